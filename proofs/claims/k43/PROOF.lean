import PyProof.Rows.All
import Wide.All
import OpenK.AllK
import Wide.FinOn
import HandS.ForExc
import HandS.ForMost
import HandS.Wide
import HandS.IsInst
import HandS.ExcIs
import HandS.Deep
import HandS.SortInts
import HandS.TupLe
import HandS.Rev
import HandS.More
import HandS.Iter
import PySem.Challenge.RW_boxnarrow_k43_inverse
set_option Elab.async false
set_option linter.all false
set_option maxRecDepth 100000
/-! Values as trees; who owns what. -/
namespace Bn
open PySem PySem.Spec PyProof.Rows L2

inductive D where
  | non | bl (b : Bool) | int (i : Int) | str (s : Str) | ty (n : String)
  | tup (xs : List D)
  | lst (m : Bool) (xs : List D)
  | cst (xs : List D)
  | obj (m : Bool) (c : Str) (ns : List Str) (xs : List D)
  deriving Inhabited
abbrev Env := List (Option D)
abbrev Ct := Addr → Nat

def isFz : D → Bool
  | .lst true _ => false
  | .obj true _ _ _ => false
  | _ => true

mutual
def freeze : D → D
  | .lst true xs => .lst false (freezeL xs)
  | .lst false xs => .lst false xs
  | .obj true c ns xs => .obj false c ns (freezeL xs)
  | .obj false c ns xs => .obj false c ns xs
  | .non => .non | .bl b => .bl b | .int i => .int i | .str s => .str s | .ty n => .ty n | .tup xs => .tup xs | .cst xs => .cst xs
def freezeL : List D → List D
  | [] => []
  | x :: xs => freeze x :: freezeL xs
end

section
variable (K : PySem.W.Frag) (ca : Str → Addr)
mutual
/-- d stands at v, in the part F of the heap that never changes -/
def Rep (F : Hp) : D → V → Prop
  | .non, v => v = .non
  | .bl b, v => v = .bl b
  | .int i, v => v = .int i
  | .str s, v => v = .str s
  | .ty n, v => v = .ty n
  | .tup ds, v => ∃ a vs, v = .ref a ∧ SqT K F a vs ∧ RepL F ds vs
  | .lst true _, _ => False
  | .lst false ds, v => ∃ a vs, v = .ref a ∧ F a = some (.lst vs) ∧ RepL F ds vs
  | .cst ds, v => ∃ a vs, v = .ref a ∧ SqL K F a vs ∧ RepL F ds vs
  | .obj true _ _ _, _ => False
  | .obj false c ns ds, v => ∃ a dx fs vs, v = .ref a ∧ F a = some (.ins (ca c) dx fs) ∧ fs = ns.zip vs ∧ ns.length = vs.length ∧ RepL F ds vs
def RepL (F : Hp) : List D → List V → Prop
  | [], vs => vs = []
  | d :: ds, vs => ∃ v r, vs = v :: r ∧ Rep F d v ∧ RepL F ds r
end
mutual
/-- d stands at v; what it owns is counted by the last argument -/
def RepO (F H : Hp) : D → V → Ct → Prop
  | .lst true ds, v, f => ∃ a vs g, v = .ref a ∧ H a = some (.lst vs) ∧ RepOs F H ds vs g ∧ ∀ b, f b = (if b = a then 1 else 0) + g b
  | .obj true c ns ds, v, f => ∃ a dx fs vs g, v = .ref a ∧ H a = some (.ins (ca c) dx fs) ∧ fs = ns.zip vs ∧ ns.length = vs.length ∧ RepOs F H ds vs g ∧ ∀ b, f b = (if b = a then 1 else 0) + g b
  | .lst false ds, v, f => Rep K ca F (.lst false ds) v ∧ ∀ b, f b = 0
  | .obj false c ns ds, v, f => Rep K ca F (.obj false c ns ds) v ∧ ∀ b, f b = 0
  | .non, v, f => Rep K ca F .non v ∧ ∀ b, f b = 0
  | .bl x, v, f => Rep K ca F (.bl x) v ∧ ∀ b, f b = 0
  | .int x, v, f => Rep K ca F (.int x) v ∧ ∀ b, f b = 0
  | .str x, v, f => Rep K ca F (.str x) v ∧ ∀ b, f b = 0
  | .ty x, v, f => Rep K ca F (.ty x) v ∧ ∀ b, f b = 0
  | .tup x, v, f => Rep K ca F (.tup x) v ∧ ∀ b, f b = 0
  | .cst x, v, f => Rep K ca F (.cst x) v ∧ ∀ b, f b = 0
def RepOs (F H : Hp) : List D → List V → Ct → Prop
  | [], vs, f => vs = [] ∧ ∀ b, f b = 0
  | d :: ds, vs, f => ∃ v r f1 f2, vs = v :: r ∧ RepO F H d v f1 ∧ RepOs F H ds r f2 ∧ ∀ b, f b = f1 b + f2 b
end
end

section
variable {K : PySem.W.Frag} {ca : Str → Addr} {F F' H H' : Hp}

theorem sqT_same {K : PySem.W.Frag} {H H' : Hp} {a : Addr} {xs : List V} (e : Same H H') (h : SqT K H a xs) : SqT K H' a xs := by
  rcases h with (h | ⟨o, h⟩) | h
  · exact .inl (.inl (e _ _ h))
  · exact .inl (.inr ⟨o, e _ _ h⟩)
  · exact .inr h

mutual
theorem Rep.mono (e : Same F F') : ∀ (d : D) (v : V), Rep K ca F d v → Rep K ca F' d v
  | .non, _, h => h
  | .bl _, _, h => h
  | .int _, _, h => h
  | .str _, _, h => h
  | .ty _, _, h => h
  | .tup ds, v, h => by
    obtain ⟨a, vs, h1, h2, h3⟩ := h
    exact ⟨a, vs, h1, sqT_same e h2, RepL.mono e ds vs h3⟩
  | .lst true _, _, h => h
  | .lst false ds, v, h => by
    obtain ⟨a, vs, h1, h2, h3⟩ := h
    exact ⟨a, vs, h1, e _ _ h2, RepL.mono e ds vs h3⟩
  | .cst ds, v, h => by
    obtain ⟨a, vs, h1, h2, h3⟩ := h
    exact ⟨a, vs, h1, e.seq h2, RepL.mono e ds vs h3⟩
  | .obj true _ _ _, _, h => h
  | .obj false c ns ds, v, h => by
    obtain ⟨a, dx, fs, vs, h1, h2, h3, h4, h5⟩ := h
    exact ⟨a, dx, fs, vs, h1, e _ _ h2, h3, h4, RepL.mono e ds vs h5⟩
theorem RepL.mono (e : Same F F') : ∀ (ds : List D) (vs : List V), RepL K ca F ds vs → RepL K ca F' ds vs
  | [], _, h => h
  | d :: ds, _, h => by
    obtain ⟨v, r, h1, h2, h3⟩ := h
    exact ⟨v, r, h1, Rep.mono e d v h2, RepL.mono e ds r h3⟩
end

theorem repO_fz {d : D} (hd : isFz d = true) {v : V} {f : Ct} : RepO K ca F H d v f ↔ (Rep K ca F d v ∧ ∀ b, f b = 0) := by
  cases d with
  | lst m xs => cases m with
    | true => cases hd
    | false => exact Iff.rfl
  | obj m c ns xs => cases m with
    | true => cases hd
    | false => exact Iff.rfl
  | _ => exact Iff.rfl

theorem rep_isFz {d : D} {v : V} (h : Rep K ca F d v) : isFz d = true := by
  cases d with
  | lst m xs => cases m with
    | true => exact h.elim
    | false => rfl
  | obj m c ns xs => cases m with
    | true => exact h.elim
    | false => rfl
  | _ => rfl

theorem Rep.o {d : D} {v : V} (h : Rep K ca F d v) : RepO K ca F H d v (fun _ => 0) := (repO_fz (rep_isFz h)).mpr ⟨h, fun _ => rfl⟩
theorem RepL.os : ∀ {ds : List D} {vs : List V}, RepL K ca F ds vs → RepOs K ca F H ds vs (fun _ => 0)
  | [], _, h => ⟨h, fun _ => rfl⟩
  | _ :: _, _, ⟨v, r, h1, h2, h3⟩ => ⟨v, r, _, _, h1, h2.o, h3.os, fun _ => rfl⟩

mutual
theorem RepO.mono (e : Same F F') : ∀ (d : D) (v : V) (f : Ct), (∀ a, 0 < f a → H' a = H a) → RepO K ca F H d v f → RepO K ca F' H' d v f
  | .lst true ds, v, f, k, h => by
    obtain ⟨a, vs, g, h1, h2, h3, h4⟩ := h
    refine ⟨a, vs, g, h1, (k a (by rw [h4, if_pos rfl]; omega)).trans h2, RepOs.mono e ds vs g (fun b hb => k b (by rw [h4]; omega)) h3, h4⟩
  | .obj true c ns ds, v, f, k, h => by
    obtain ⟨a, dx, fs, vs, g, h1, h2, h5, h6, h3, h4⟩ := h
    refine ⟨a, dx, fs, vs, g, h1, (k a (by rw [h4, if_pos rfl]; omega)).trans h2, h5, h6, RepOs.mono e ds vs g (fun b hb => k b (by rw [h4]; omega)) h3, h4⟩
  | .lst false ds, v, f, k, h => ⟨Rep.mono e _ _ h.1, h.2⟩
  | .obj false c ns ds, v, f, k, h => ⟨Rep.mono e _ _ h.1, h.2⟩
  | .non, v, f, k, h => ⟨Rep.mono e _ _ h.1, h.2⟩
  | .bl _, v, f, k, h => ⟨Rep.mono e _ _ h.1, h.2⟩
  | .int _, v, f, k, h => ⟨Rep.mono e _ _ h.1, h.2⟩
  | .str _, v, f, k, h => ⟨Rep.mono e _ _ h.1, h.2⟩
  | .ty _, v, f, k, h => ⟨Rep.mono e _ _ h.1, h.2⟩
  | .tup _, v, f, k, h => ⟨Rep.mono e _ _ h.1, h.2⟩
  | .cst _, v, f, k, h => ⟨Rep.mono e _ _ h.1, h.2⟩
theorem RepOs.mono (e : Same F F') : ∀ (ds : List D) (vs : List V) (f : Ct), (∀ a, 0 < f a → H' a = H a) → RepOs K ca F H ds vs f → RepOs K ca F' H' ds vs f
  | [], _, _, _, h => h
  | d :: ds, _, f, k, h => by
    obtain ⟨v, r, f1, f2, h1, h2, h3, h4⟩ := h
    exact ⟨v, r, f1, f2, h1, RepO.mono e d v f1 (fun b hb => k b (by rw [h4]; omega)) h2, RepOs.mono e ds r f2 (fun b hb => k b (by rw [h4]; omega)) h3, h4⟩
end

mutual
theorem RepO.there : ∀ (d : D) (v : V) (f : Ct), RepO K ca F H d v f → ∀ a, 0 < f a → H a ≠ none
  | .lst true ds, v, f, h, b, hb => by
    obtain ⟨a, vs, g, h1, h2, h3, h4⟩ := h
    by_cases e : b = a
    · subst e; rw [h2]; exact fun z => by cases z
    · rw [h4, if_neg e] at hb; exact RepOs.there ds vs g h3 b (by omega)
  | .obj true c ns ds, v, f, h, b, hb => by
    obtain ⟨a, dx, fs, vs, g, h1, h2, h5, h6, h3, h4⟩ := h
    by_cases e : b = a
    · subst e; rw [h2]; exact fun z => by cases z
    · rw [h4, if_neg e] at hb; exact RepOs.there ds vs g h3 b (by omega)
  | .lst false ds, v, f, h, b, hb => by rw [h.2] at hb; omega
  | .obj false c ns ds, v, f, h, b, hb => by rw [h.2] at hb; omega
  | .non, v, f, h, b, hb => by rw [h.2] at hb; omega
  | .bl _, v, f, h, b, hb => by rw [h.2] at hb; omega
  | .int _, v, f, h, b, hb => by rw [h.2] at hb; omega
  | .str _, v, f, h, b, hb => by rw [h.2] at hb; omega
  | .ty _, v, f, h, b, hb => by rw [h.2] at hb; omega
  | .tup _, v, f, h, b, hb => by rw [h.2] at hb; omega
  | .cst _, v, f, h, b, hb => by rw [h.2] at hb; omega
theorem RepOs.there : ∀ (ds : List D) (vs : List V) (f : Ct), RepOs K ca F H ds vs f → ∀ a, 0 < f a → H a ≠ none
  | [], _, f, h, b, hb => by rw [h.2] at hb; omega
  | d :: ds, _, f, h, b, hb => by
    obtain ⟨v, r, f1, f2, h1, h2, h3, h4⟩ := h
    rw [h4] at hb
    by_cases q : 0 < f1 b
    · exact RepO.there d v f1 h2 b q
    · exact RepOs.there ds r f2 h3 b (by omega)
end

mutual
theorem RepO.fz (e : Same F F') : ∀ (d : D) (v : V) (f : Ct), (∀ a, 0 < f a → F' a = H a) → RepO K ca F H d v f → Rep K ca F' (freeze d) v
  | .lst true ds, v, f, k, h => by
    obtain ⟨a, vs, g, h1, h2, h3, h4⟩ := h
    exact ⟨a, vs, h1, (k a (by rw [h4, if_pos rfl]; omega)).trans h2, RepOs.fz e ds vs g (fun b hb => k b (by rw [h4]; omega)) h3⟩
  | .obj true c ns ds, v, f, k, h => by
    obtain ⟨a, dx, fs, vs, g, h1, h2, h5, h6, h3, h4⟩ := h
    exact ⟨a, dx, fs, vs, h1, (k a (by rw [h4, if_pos rfl]; omega)).trans h2, h5, h6, RepOs.fz e ds vs g (fun b hb => k b (by rw [h4]; omega)) h3⟩
  | .lst false ds, v, f, k, h => Rep.mono e _ _ h.1
  | .obj false c ns ds, v, f, k, h => Rep.mono e _ _ h.1
  | .non, v, f, k, h => Rep.mono e _ _ h.1
  | .bl _, v, f, k, h => Rep.mono e _ _ h.1
  | .int _, v, f, k, h => Rep.mono e _ _ h.1
  | .str _, v, f, k, h => Rep.mono e _ _ h.1
  | .ty _, v, f, k, h => Rep.mono e _ _ h.1
  | .tup _, v, f, k, h => Rep.mono e _ _ h.1
  | .cst _, v, f, k, h => Rep.mono e _ _ h.1
theorem RepOs.fz (e : Same F F') : ∀ (ds : List D) (vs : List V) (f : Ct), (∀ a, 0 < f a → F' a = H a) → RepOs K ca F H ds vs f → RepL K ca F' (freezeL ds) vs
  | [], _, _, _, h => h.1
  | d :: ds, _, f, k, h => by
    obtain ⟨v, r, f1, f2, h1, h2, h3, h4⟩ := h
    exact ⟨v, r, h1, RepO.fz e d v f1 (fun b hb => k b (by rw [h4]; omega)) h2, RepOs.fz e ds r f2 (fun b hb => k b (by rw [h4]; omega)) h3⟩
end

theorem RepL.length : ∀ {ds : List D} {vs : List V}, RepL K ca F ds vs → vs.length = ds.length
  | [], _, h => by have h : _ = [] := h; rw [h]; rfl
  | _ :: _, _, ⟨v, r, h1, h2, h3⟩ => by rw [h1, List.length_cons, List.length_cons, h3.length]
theorem RepOs.length : ∀ {ds : List D} {vs : List V} {f : Ct}, RepOs K ca F H ds vs f → vs.length = ds.length
  | [], _, _, h => by rw [h.1]; rfl
  | _ :: _, _, _, ⟨v, r, _, _, h1, h2, h3, _⟩ => by rw [h1, List.length_cons, List.length_cons, h3.length]
theorem RepL.get : ∀ {ds : List D} {vs : List V} {i : Nat} {d : D}, RepL K ca F ds vs → ds[i]? = some d → ∃ v, vs[i]? = some v ∧ Rep K ca F d v
  | [], _, _, _, _, e => by simp at e
  | d :: _, _, 0, _, ⟨v, r, h1, h2, h3⟩, e => by simp at e; subst e; subst h1; exact ⟨v, rfl, h2⟩
  | _ :: _, _, i + 1, d, ⟨v, r, h1, h2, h3⟩, e => by subst h1; simpa using h3.get (i := i) (by simpa using e)
theorem RepOs.get : ∀ {ds : List D} {vs : List V} {f : Ct} {i : Nat} {d : D}, RepOs K ca F H ds vs f → ds[i]? = some d → ∃ v g, vs[i]? = some v ∧ RepO K ca F H d v g
  | [], _, _, _, _, _, e => by simp at e
  | d :: _, _, _, 0, _, ⟨v, r, f1, f2, h1, h2, h3, _⟩, e => by simp at e; subst e; subst h1; exact ⟨v, f1, rfl, h2⟩
  | _ :: _, _, _, i + 1, d, ⟨v, r, f1, f2, h1, h2, h3, _⟩, e => by subst h1; simpa using h3.get (i := i) (by simpa using e)
theorem RepOs.append : ∀ {ds es : List D} {vs us : List V} {f g : Ct}, RepOs K ca F H ds vs f → RepOs K ca F H es us g → RepOs K ca F H (ds ++ es) (vs ++ us) (fun b => f b + g b)
  | [], es, _, us, f, g, h, k => by
    obtain ⟨rfl, h2⟩ := h
    have e : (fun b => f b + g b) = g := funext fun b => by rw [h2]; omega
    rw [e]; exact k
  | _ :: _, _, _, _, f, g, ⟨v, r, f1, f2, h1, h2, h3, h4⟩, k => by
    subst h1
    exact ⟨v, _, f1, _, rfl, h2, h3.append k, fun b => by show f b + g b = f1 b + (f2 b + g b); rw [h4]; omega⟩
theorem RepOs.split : ∀ {ds es : List D} {ws : List V} {f : Ct}, RepOs K ca F H (ds ++ es) ws f → ∃ vs us g1 g2, ws = vs ++ us ∧ RepOs K ca F H ds vs g1 ∧ RepOs K ca F H es us g2 ∧ ∀ b, f b = g1 b + g2 b
  | [], es, ws, f, h => ⟨[], ws, fun _ => 0, f, rfl, ⟨rfl, fun _ => rfl⟩, h, fun b => by show f b = 0 + f b; omega⟩
  | _ :: _, _, _, f, ⟨v, r, f1, f2, h1, h2, h3, h4⟩ => by
    obtain ⟨vs, us, g1, g2, e, k1, k2, k3⟩ := RepOs.split h3
    subst h1; subst e
    exact ⟨v :: vs, us, fun b => f1 b + g1 b, g2, rfl, ⟨v, vs, f1, g1, rfl, h2, k1, fun _ => rfl⟩, k2, fun b => by show f b = (f1 b + g1 b) + g2 b; rw [h4, k3]; omega⟩
theorem RepOs.split' {ds es : List D} {vs us : List V} {f : Ct} (h : RepOs K ca F H (ds ++ es) (vs ++ us) f) (hl : vs.length = ds.length) : ∃ g1 g2, RepOs K ca F H ds vs g1 ∧ RepOs K ca F H es us g2 ∧ ∀ b, f b = g1 b + g2 b := by
  obtain ⟨vs', us', g1, g2, e, k1, k2, k3⟩ := h.split
  have hl' := k1.length
  obtain ⟨rfl, rfl⟩ := List.append_inj e (by omega)
  exact ⟨g1, g2, k1, k2, k3⟩
end

/-! ### the slots -/
section
variable (K : PySem.W.Frag) (ca : Str → Addr) (F H : Hp)
def Sl : Env → L2.St → Ct → Prop
  | [], σ, f => σ = [] ∧ ∀ b, f b = 0
  | none :: τ, σ, f => ∃ x r, σ = x :: r ∧ Sl τ r f
  | some d :: τ, σ, f => ∃ v r f1 f2, σ = some v :: r ∧ RepO K ca F H d v f1 ∧ Sl τ r f2 ∧ ∀ b, f b = f1 b + f2 b
end
section
variable {K : PySem.W.Frag} {ca : Str → Addr} {F F' H H' : Hp}
theorem Sl.mono (e : Same F F') : ∀ {τ : Env} {σ : L2.St} {f : Ct}, (∀ a, 0 < f a → H' a = H a) → Sl K ca F H τ σ f → Sl K ca F' H' τ σ f
  | [], _, _, _, h => h
  | none :: _, _, _, k, ⟨x, r, h1, h2⟩ => ⟨x, r, h1, Sl.mono e k h2⟩
  | some _ :: _, _, f, k, ⟨v, r, f1, f2, h1, h2, h3, h4⟩ => ⟨v, r, f1, f2, h1, RepO.mono e _ _ _ (fun b hb => k b (by rw [h4]; omega)) h2, Sl.mono e (fun b hb => k b (by rw [h4]; omega)) h3, h4⟩
theorem Sl.there : ∀ {τ : Env} {σ : L2.St} {f : Ct}, Sl K ca F H τ σ f → ∀ a, 0 < f a → H a ≠ none
  | [], _, _, h, b, hb => by rw [h.2] at hb; omega
  | none :: _, _, _, ⟨x, r, h1, h2⟩, b, hb => Sl.there h2 b hb
  | some _ :: _, _, f, ⟨v, r, f1, f2, h1, h2, h3, h4⟩, b, hb => by
    rw [h4] at hb
    by_cases q : 0 < f1 b
    · exact RepO.there _ v f1 h2 b q
    · exact Sl.there h3 b (by omega)
theorem Sl.length : ∀ {τ : Env} {σ : L2.St} {f : Ct}, Sl K ca F H τ σ f → σ.length = τ.length
  | [], _, _, h => by rw [h.1]; rfl
  | none :: _, _, _, ⟨x, r, h1, h2⟩ => by rw [h1, List.length_cons, List.length_cons, Sl.length h2]
  | some _ :: _, _, f, ⟨v, r, f1, f2, h1, h2, h3, h4⟩ => by rw [h1, List.length_cons, List.length_cons, Sl.length h3]
theorem Sl.get : ∀ {τ : Env} {σ : L2.St} {f : Ct} {i : Nat} {d : D}, Sl K ca F H τ σ f → τ[i]? = some (some d) → ∃ v g, σ[i]? = some (some v) ∧ RepO K ca F H d v g
  | [], _, _, _, _, _, e => by simp at e
  | none :: _, _, _, 0, _, _, e => by simp at e
  | none :: _, _, _, i + 1, _, ⟨x, r, h1, h2⟩, e => by subst h1; simpa using Sl.get (i := i) h2 (by simpa using e)
  | some _ :: _, _, _, 0, _, ⟨v, r, f1, f2, h1, h2, h3, h4⟩, e => by simp at e; subst e; subst h1; exact ⟨v, f1, rfl, h2⟩
  | some _ :: _, _, _, i + 1, _, ⟨v, r, f1, f2, h1, h2, h3, h4⟩, e => by subst h1; simpa using Sl.get (i := i) h3 (by simpa using e)
/-- a slot gives away what it has -/
theorem Sl.take : ∀ {τ : Env} {σ : L2.St} {f : Ct} {i : Nat} {d : D}, Sl K ca F H τ σ f → τ[i]? = some (some d) → ∃ v g1 g2, σ[i]? = some (some v) ∧ RepO K ca F H d v g1 ∧ Sl K ca F H (τ.set i none) σ g2 ∧ ∀ b, f b = g1 b + g2 b
  | [], _, _, _, _, _, e => by simp at e
  | none :: _, _, _, 0, _, _, e => by simp at e
  | none :: _, _, _, i + 1, _, ⟨x, r, h1, h2⟩, e => by
    subst h1
    obtain ⟨v, g1, g2, k1, k2, k3, k4⟩ := Sl.take (i := i) h2 (by simpa using e)
    exact ⟨v, g1, g2, by simpa using k1, k2, ⟨x, r, rfl, k3⟩, k4⟩
  | some _ :: _, _, _, 0, _, ⟨v, r, f1, f2, h1, h2, h3, h4⟩, e => by simp at e; subst e; subst h1; exact ⟨v, f1, f2, rfl, h2, ⟨_, r, rfl, h3⟩, h4⟩
  | some _ :: _, _, f, i + 1, _, ⟨v, r, f1, f2, h1, h2, h3, h4⟩, e => by
    subst h1
    obtain ⟨v', g1, g2, k1, k2, k3, k4⟩ := Sl.take (i := i) h3 (by simpa using e)
    exact ⟨v', g1, fun b => f1 b + g2 b, by simpa using k1, k2, ⟨v, r, f1, g2, rfl, h2, k3, fun _ => rfl⟩, fun b => by show f b = g1 b + (f1 b + g2 b); rw [h4, k4]; omega⟩
/-- a slot takes a value -/
theorem Sl.put : ∀ {τ : Env} {σ : L2.St} {f : Ct} {i : Nat} {d : D} {v : V} {g : Ct}, Sl K ca F H τ σ f → i < τ.length → RepO K ca F H d v g → ∃ f2, Sl K ca F H (τ.set i (some d)) (σ.set i (some v)) f2 ∧ ∀ b, f2 b ≤ f b + g b
  | [], _, _, _, _, _, _, _, e, _ => by simp at e
  | none :: _, _, f, 0, _, v, g, ⟨x, r, h1, h2⟩, e, hv => by subst h1; exact ⟨fun b => g b + f b, ⟨v, r, g, f, rfl, hv, h2, fun _ => rfl⟩, fun b => by show g b + f b ≤ f b + g b; omega⟩
  | none :: _, _, f, i + 1, _, v, g, ⟨x, r, h1, h2⟩, e, hv => by
    subst h1
    obtain ⟨f2, k1, k2⟩ := Sl.put (i := i) h2 (by simpa using e) hv
    exact ⟨f2, ⟨x, _, rfl, k1⟩, k2⟩
  | some _ :: _, _, f, 0, _, v, g, ⟨w, r, f1, f2, h1, h2, h3, h4⟩, e, hv => by subst h1; exact ⟨fun b => g b + f2 b, ⟨v, r, g, f2, rfl, hv, h3, fun _ => rfl⟩, fun b => by show g b + f2 b ≤ f b + g b; rw [h4]; omega⟩
  | some _ :: _, _, f, i + 1, _, v, g, ⟨w, r, f1, f2, h1, h2, h3, h4⟩, e, hv => by
    subst h1
    obtain ⟨f3, k1, k2⟩ := Sl.put (i := i) h3 (by simpa using e) hv
    exact ⟨fun b => f1 b + f3 b, ⟨w, _, f1, f3, rfl, h2, k1, fun _ => rfl⟩, fun b => by show f1 b + f3 b ≤ f b + g b; have := k2 b; rw [h4]; omega⟩
/-- a slot forgets what it has -/
theorem Sl.drop : ∀ {τ : Env} {σ : L2.St} {f : Ct} {i : Nat}, Sl K ca F H τ σ f → ∃ f2, Sl K ca F H (τ.set i none) σ f2 ∧ ∀ b, f2 b ≤ f b := fun {τ σ f i} h => by
  cases e : τ[i]? with
  | none => rw [List.set_eq_of_length_le (by simpa using e)]; exact ⟨f, h, fun _ => Nat.le_refl _⟩
  | some x =>
    cases x with
    | none =>
      have : τ.set i none = τ := by
        apply List.ext_getElem?
        intro j
        rw [List.getElem?_set]
        split
        · rename_i q; subst q; split
          · exact e.symm
          · rename_i hl; rw [List.getElem?_eq_none (by omega)]
        · rfl
      rw [this]; exact ⟨f, h, fun _ => Nat.le_refl _⟩
    | some d =>
      obtain ⟨v, g1, g2, _, _, k, q⟩ := h.take e
      exact ⟨g2, k, fun b => by rw [q]; omega⟩
end

/-! ### the state -/
/-- what is fixed while a def's body runs: the classes' places, the unchanging part and the rest of the heap at its entry, the parameters that are handed to be changed -/
structure Bx where
  ca : Str → Addr
  F0 : Hp
  R : Hp
  io : List (Nat × V)
structure Wd (B : Bx) (F H : Hp) (f : Ct) : Prop where
  nd : ∀ a, f a ≤ 1
  dF : ∀ a, 0 < f a → F a = none
  dR : ∀ a, 0 < f a → B.R a = none
  sF : Same F H
  sR : Same B.R H
  s0 : Same B.F0 F
  fr : ∀ a, F a ≠ none → B.F0 a ≠ none ∨ B.R a = none
def IoOk (B : Bx) (σ : L2.St) : Prop := ∀ p ∈ B.io, σ[p.1]? = some (some p.2)
def StT (K : PySem.W.Frag) (B : Bx) (F H : Hp) (σ : L2.St) (τ : Env) (vs : List V) (ds : List D) : Prop :=
  ∃ f1 f2, Sl K B.ca F H τ σ f1 ∧ RepOs K B.ca F H ds vs f2 ∧ Wd B F H (fun b => f1 b + f2 b) ∧ IoOk B σ

theorem Wd.less {B : Bx} {F H : Hp} {f g : Ct} (w : Wd B F H f) (h : ∀ b, g b ≤ f b) : Wd B F H g :=
  ⟨fun a => Nat.le_trans (h a) (w.nd a), fun a q => w.dF a (Nat.lt_of_lt_of_le q (h a)), fun a q => w.dR a (Nat.lt_of_lt_of_le q (h a)), w.sF, w.sR, w.s0, w.fr⟩

theorem same_upd {H : Hp} {p : Addr} {o : HO} (h : H p = none) : Same H (upd H p o) := fun b x e => by
  rw [upd_ne (ne_of_none e h)]
  exact e
/-- something new, unowned, that never changes -/
theorem Wd.frozen {B : Bx} {F H : Hp} {f : Ct} {p : Addr} {o : HO} (w : Wd B F H f) (hp : H p = none) : Wd B (upd F p o) (upd H p o) (fun a => if a = p then 0 else f a) := by
  have hF : F p = none := by
    cases e : F p with
    | none => rfl
    | some x => rw [w.sF _ _ e] at hp; cases hp
  have hR : B.R p = none := by
    cases e : B.R p with
    | none => rfl
    | some x => rw [w.sR _ _ e] at hp; cases hp
  refine ⟨fun a => ?_, fun a q => ?_, fun a q => ?_, fun b x e => ?_, fun b x e => ?_, fun b x e => ?_, fun a q => ?_⟩
  · show (if a = p then 0 else f a) ≤ 1
    split
    · omega
    · exact w.nd a
  · have q : 0 < (if a = p then 0 else f a) := q
    split at q
    · omega
    · rw [upd_ne (by assumption)]; exact w.dF a q
  · have q : 0 < (if a = p then 0 else f a) := q
    split at q
    · omega
    · exact w.dR a q
  · by_cases h : b = p
    · subst h; rw [upd_same] at e ⊢; exact e
    · rw [upd_ne h] at e ⊢; exact w.sF b x e
  · rw [upd_ne (ne_of_none (w.sR b x e) hp)]; exact w.sR b x e
  · rw [upd_ne (ne_of_none (w.s0 b x e) hF)]; exact w.s0 b x e
  · by_cases h : a = p
    · subst h; exact .inr hR
    · rw [upd_ne h] at q; exact w.fr a q
/-- something new that is owned -/
theorem Wd.owned {B : Bx} {F H : Hp} {f : Ct} {p : Addr} {o : HO} (w : Wd B F H f) (hp : H p = none) (hf : f p = 0) : Wd B F (upd H p o) (fun a => (if a = p then 1 else 0) + f a) := by
  have hF : F p = none := by
    cases e : F p with
    | none => rfl
    | some x => rw [w.sF _ _ e] at hp; cases hp
  have hR : B.R p = none := by
    cases e : B.R p with
    | none => rfl
    | some x => rw [w.sR _ _ e] at hp; cases hp
  refine ⟨fun a => ?_, fun a q => ?_, fun a q => ?_, fun b x e => ?_, fun b x e => ?_, w.s0, w.fr⟩
  · show (if a = p then 1 else 0) + f a ≤ 1
    split
    · rename_i h; rw [h, hf]; omega
    · have := w.nd a; omega
  · have q : 0 < (if a = p then 1 else 0) + f a := q
    split at q
    · rename_i h; rw [h]; exact hF
    · exact w.dF a (by omega)
  · have q : 0 < (if a = p then 1 else 0) + f a := q
    split at q
    · rename_i h; rw [h]; exact hR
    · exact w.dR a (by omega)
  · rw [upd_ne (ne_of_none (w.sF b x e) hp)]; exact w.sF b x e
  · rw [upd_ne (ne_of_none (w.sR b x e) hp)]; exact w.sR b x e

/-- what is owned by es is given up: the unchanging part grows by it -/
def grow (F H : Hp) (f : Ct) : Hp := fun a => if 0 < f a then H a else F a
theorem same_grow {B : Bx} {F H : Hp} {f g : Ct} (w : Wd B F H f) (h : ∀ b, g b ≤ f b) : Same F (grow F H g) := fun b x e => by
  unfold grow
  split
  · rename_i q; rw [w.dF b (Nat.lt_of_lt_of_le q (h b))] at e; cases e
  · exact e
theorem Wd.give {B : Bx} {F H : Hp} {f g r : Ct} (w : Wd B F H f) (h : ∀ b, f b = g b + r b) : Wd B (grow F H g) H r := by
  refine ⟨fun a => by have := w.nd a; have := h a; omega, fun a q => ?_, fun a q => w.dR a (by rw [h]; omega), fun b x e => ?_, w.sR, fun b x e => (same_grow w fun b => by rw [h]; omega) b x (w.s0 b x e), fun a q => ?_⟩
  · unfold grow
    have := w.nd a; have := h a
    rw [if_neg (by omega)]
    exact w.dF a (by omega)
  · unfold grow at e
    split at e
    · exact e
    · exact w.sF b x e
  · unfold grow at q
    split at q
    · exact .inr (w.dR a (by rw [h]; omega))
    · exact w.fr a q

section
variable {K : PySem.W.Frag} {B : Bx} {F H : Hp} {σ : L2.St} {τ : Env} {vs us : List V} {ds es : List D} {v : V} {d : D}
theorem StT.push (s : StT K B F H σ τ vs ds) (h : Rep K B.ca F d v) : StT K B F H σ τ (v :: vs) (d :: ds) := by
  obtain ⟨f1, f2, a, b, w, io⟩ := s
  exact ⟨f1, f2, a, ⟨v, vs, _, f2, rfl, h.o, b, fun _ => by omega⟩, w, io⟩
theorem StT.pop (s : StT K B F H σ τ (v :: vs) (d :: ds)) : StT K B F H σ τ vs ds := by
  obtain ⟨f1, f2, a, ⟨_, _, g1, g2, e, _, b, q⟩, w, io⟩ := s
  cases e
  exact ⟨f1, g2, a, b, w.less fun b => by show f1 b + g2 b ≤ f1 b + f2 b; rw [q]; omega, io⟩
theorem StT.pops (s : StT K B F H σ τ (us ++ vs) (es ++ ds)) (hl : us.length = es.length) : StT K B F H σ τ vs ds := by
  obtain ⟨f1, f2, a, b, w, io⟩ := s
  obtain ⟨g1, g2, _, b, q⟩ := b.split' hl
  exact ⟨f1, g2, a, b, w.less fun b => by show f1 b + g2 b ≤ f1 b + f2 b; rw [q]; omega, io⟩
theorem StT.top (s : StT K B F H σ τ (v :: vs) (d :: ds)) : ∃ f, RepO K B.ca F H d v f := by
  obtain ⟨f1, f2, a, ⟨_, _, g1, g2, e, h, b, q⟩, w, io⟩ := s
  cases e
  exact ⟨_, h⟩
theorem StT.tops (s : StT K B F H σ τ (us ++ vs) (es ++ ds)) (hl : us.length = es.length) : ∃ f, RepOs K B.ca F H es us f := by
  obtain ⟨f1, f2, a, b, w, io⟩ := s
  obtain ⟨g1, g2, h, b, q⟩ := b.split' hl
  exact ⟨_, h⟩
theorem StT.topF (s : StT K B F H σ τ (v :: vs) (d :: ds)) (h : isFz d = true) : Rep K B.ca F d v := by
  obtain ⟨f, q⟩ := s.top
  exact ((repO_fz h).mp q).1
/-- the items on top change places with the one below -/
theorem StT.swap (s : StT K B F H σ τ (us ++ v :: vs) (es ++ d :: ds)) (hl : us.length = es.length) : StT K B F H σ τ (v :: us ++ vs) (d :: es ++ ds) := by
  obtain ⟨f1, f2, a, b, w, io⟩ := s
  obtain ⟨g1, g2, b1, ⟨_, _, g3, g4, e, b2, b3, q2⟩, q⟩ := b.split' hl
  cases e
  exact ⟨f1, f2, a, ⟨v, us ++ vs, g3, _, rfl, b2, b1.append b3, fun b => by rw [q, q2]; omega⟩, w, io⟩
theorem StT.same (s : StT K B F H σ τ vs ds) : Same F H := by
  obtain ⟨f1, f2, a, b, w, io⟩ := s
  exact w.sF
theorem StT.get {i : Nat} (s : StT K B F H σ τ vs ds) (e : τ[i]? = some (some d)) : ∃ v f, σ[i]? = some (some v) ∧ RepO K B.ca F H d v f := by
  obtain ⟨f1, f2, a, b, w, io⟩ := s
  exact a.get e
theorem StT.take {i : Nat} (s : StT K B F H σ τ vs ds) (e : τ[i]? = some (some d)) : ∃ v, σ[i]? = some (some v) ∧ StT K B F H σ (τ.set i none) (v :: vs) (d :: ds) := by
  obtain ⟨f1, f2, a, b, w, io⟩ := s
  obtain ⟨v, g1, g2, e1, h1, h2, q⟩ := a.take e
  refine ⟨v, e1, g2, fun b => g1 b + f2 b, h2, ⟨v, vs, g1, f2, rfl, h1, b, fun _ => rfl⟩, ?_, io⟩
  have e2 : (fun b => g2 b + (g1 b + f2 b)) = fun b => f1 b + f2 b := funext fun b => by rw [q]; omega
  rw [e2]; exact w
/-- free: is slot i none of the parameters that are handed to be changed -/
def ioFree (B : Bx) (i : Nat) : Prop := ∀ p ∈ B.io, p.1 ≠ i
theorem StT.put {i : Nat} (s : StT K B F H σ τ (v :: vs) (d :: ds)) (hi : i < τ.length) (hf : ioFree B i) : StT K B F H (σ.set i (some v)) (τ.set i (some d)) vs ds := by
  obtain ⟨f1, f2, a, ⟨_, _, g1, g2, e, h, b, q⟩, w, io⟩ := s
  cases e
  obtain ⟨f3, k1, k2⟩ := a.put hi h
  refine ⟨f3, g2, k1, b, w.less fun b => by show f3 b + g2 b ≤ f1 b + f2 b; have := k2 b; rw [q]; omega, fun p hp => ?_⟩
  rw [List.getElem?_set_ne (Ne.symm (hf p hp))]
  exact io p hp
theorem StT.putBack {i : Nat} (s : StT K B F H σ τ (v :: vs) (d :: ds)) (hi : i < τ.length) (hv : σ[i]? = some (some v)) : StT K B F H σ (τ.set i (some d)) vs ds := by
  obtain ⟨f1, f2, a, ⟨_, _, g1, g2, e, h, b, q⟩, w, io⟩ := s
  cases e
  obtain ⟨f3, k1, k2⟩ := a.put hi h
  have e1 : σ.set i (some v) = σ := by
    apply List.ext_getElem?
    intro j
    rw [List.getElem?_set]
    split
    · rename_i q; subst q; split
      · exact hv.symm
      · rename_i hl; rw [List.getElem?_eq_none (by omega)]
    · rfl
  rw [e1] at k1
  exact ⟨f3, g2, k1, b, w.less fun b => by show f3 b + g2 b ≤ f1 b + f2 b; have := k2 b; rw [q]; omega, io⟩
theorem StT.forget {i : Nat} (s : StT K B F H σ τ vs ds) : StT K B F H σ (τ.set i none) vs ds := by
  obtain ⟨f1, f2, a, b, w, io⟩ := s
  obtain ⟨g, k, q⟩ := a.drop (i := i)
  exact ⟨g, f2, k, b, w.less fun b => by show g b + f2 b ≤ f1 b + f2 b; have := q b; omega, io⟩
/-- the items on top are given up to the unchanging part -/
theorem StT.freeze (s : StT K B F H σ τ (us ++ vs) (es ++ ds)) (hl : us.length = es.length) : ∃ F', Same F F' ∧ RepL K B.ca F' (freezeL es) us ∧ StT K B F' H σ τ vs ds := by
  obtain ⟨f1, f2, a, b, w, io⟩ := s
  obtain ⟨g1, g2, b1, b2, q⟩ := b.split' hl
  have le : ∀ b, g1 b ≤ f1 b + f2 b := fun b => by rw [q]; omega
  have sm : Same F (grow F H g1) := same_grow w le
  refine ⟨grow F H g1, sm, RepOs.fz sm _ _ _ (fun a h => by unfold grow; rw [if_pos h]) b1, f1, g2, a.mono sm fun _ _ => rfl, RepOs.mono sm _ _ _ (fun _ _ => rfl) b2, ?_, io⟩
  exact w.give (g := g1) (r := fun b => f1 b + g2 b) fun b => by show f1 b + f2 b = g1 b + (f1 b + g2 b); rw [q]; omega
theorem StT.new (s : StT K B F H σ τ vs ds) {p : Addr} {o : HO} (hp : H p = none) : StT K B (upd F p o) (upd H p o) σ τ vs ds ∧ Same F (upd F p o) := by
  obtain ⟨f1, f2, a, b, w, io⟩ := s
  have hF : F p = none := by
    cases e : F p with
    | none => rfl
    | some x => rw [w.sF _ _ e] at hp; cases hp
  have sm : Same F (upd F p o) := Bn.same_upd hF
  have k1 : ∀ x, 0 < f1 x → upd H p o x = H x := fun x hx => upd_ne fun e => a.there x hx (e ▸ hp)
  have k2 : ∀ x, 0 < f2 x → upd H p o x = H x := fun x hx => upd_ne fun e => b.there _ _ _ x hx (e ▸ hp)
  refine ⟨⟨f1, f2, a.mono sm k1, RepOs.mono sm _ _ _ k2 b, (w.frozen hp).less fun x => ?_, io⟩, sm⟩
  show f1 x + f2 x ≤ if x = p then 0 else f1 x + f2 x
  split
  · rename_i e
    have h1 : ¬ 0 < f1 x := fun h => a.there x h (e ▸ hp)
    have h2 : ¬ 0 < f2 x := fun h => b.there _ _ _ x h (e ▸ hp)
    omega
  · omega
theorem StT.newTup (s : StT K B F H σ τ vs ds) {p : Addr} (hp : H p = none) (h : RepL K B.ca F es us) : StT K B (upd F p (.tup us)) (upd H p (.tup us)) σ τ (.ref p :: vs) (.tup es :: ds) := by
  obtain ⟨s', sm⟩ := s.new (o := .tup us) hp
  exact s'.push ⟨p, us, rfl, .inl (.inl upd_same), RepL.mono sm _ _ h⟩
theorem StT.newLst (s : StT K B F H σ τ (us ++ vs) (es ++ ds)) (hl : us.length = es.length) {p : Addr} (hp : H p = none) : StT K B F (upd H p (.lst us)) σ τ (.ref p :: vs) (.lst true es :: ds) := by
  obtain ⟨f1, f2, a, b, w, io⟩ := s
  obtain ⟨g1, g2, b1, b2, q⟩ := b.split' hl
  have k1 : ∀ x, 0 < f1 x → upd H p (.lst us) x = H x := fun x hx => upd_ne fun e => a.there x hx (e ▸ hp)
  have k2 : ∀ x, 0 < g1 x → upd H p (.lst us) x = H x := fun x hx => upd_ne fun e => b1.there _ _ _ x hx (e ▸ hp)
  have k3 : ∀ x, 0 < g2 x → upd H p (.lst us) x = H x := fun x hx => upd_ne fun e => b2.there _ _ _ x hx (e ▸ hp)
  have z : f1 p + f2 p = 0 := by
    have h1 : ¬ 0 < f1 p := fun h => a.there p h hp
    have h2 : ¬ 0 < f2 p := fun h => b.there _ _ _ p h hp
    omega
  refine ⟨f1, fun b => ((if b = p then 1 else 0) + g1 b) + g2 b, a.mono (Same.refl _) k1, ⟨.ref p, vs, fun b => (if b = p then 1 else 0) + g1 b, g2, rfl, ⟨p, us, g1, rfl, upd_same, RepOs.mono (Same.refl _) _ _ _ k2 b1, fun _ => rfl⟩, RepOs.mono (Same.refl _) _ _ _ k3 b2, fun _ => rfl⟩, ?_, io⟩
  have e : (fun b => f1 b + (((if b = p then 1 else 0) + g1 b) + g2 b)) = fun b => (if b = p then 1 else 0) + (f1 b + f2 b) := funext fun b => by rw [q]; omega
  rw [e]
  exact w.owned hp z
/-- the list on top is changed; its new items are made of its old ones and of the items us below it -/
theorem StT.change {a : Addr} {xs ys : List V} {es' : List D} (s : StT K B F H σ τ (.ref a :: (us ++ vs)) (.lst true es :: (ds ++ es'))) (hl : us.length = ds.length) (hx : H a = some (.lst xs)) {es2 : List D}
    (k : ∀ g1 g2, RepOs K B.ca F H es xs g1 → RepOs K B.ca F H ds us g2 → ∃ g, RepOs K B.ca F H es2 ys g ∧ ∀ b, g b ≤ g1 b + g2 b) :
    StT K B F (upd H a (.lst ys)) σ τ (.ref a :: vs) (.lst true es2 :: es') := by
  obtain ⟨f1, f2, A, ⟨_, _, g1, g2, e, h, b, q⟩, w, io⟩ := s
  cases e
  obtain ⟨a', xs', g3, e', hx', h3, q3⟩ := h
  cases e'
  rw [hx] at hx'; cases hx'
  obtain ⟨g4, g5, b1, b2, q4⟩ := b.split' hl
  obtain ⟨g, hg, hle⟩ := k g3 g4 h3 b1
  have one := w.nd a
  have tot : ∀ b, f1 b + f2 b = f1 b + ((if b = a then 1 else 0) + g3 b + (g4 b + g5 b)) := fun b => by rw [q, q3, q4]
  have za : f1 a = 0 ∧ g3 a = 0 ∧ g4 a = 0 ∧ g5 a = 0 := by
    have := tot a
    rw [if_pos rfl] at this
    omega
  have off : ∀ {φ : Ct}, φ a = 0 → ∀ x, 0 < φ x → upd H a (.lst ys) x = H x := fun {φ} hz x hx => upd_ne fun e => by rw [e, hz] at hx; omega
  have zg : g a = 0 := by have := hle a; omega
  refine ⟨f1, fun b => ((if b = a then 1 else 0) + g b) + g5 b, A.mono (Same.refl _) (off za.1), ⟨.ref a, vs, fun b => (if b = a then 1 else 0) + g b, g5, rfl, ⟨a, ys, g, rfl, upd_same, RepOs.mono (Same.refl _) _ _ _ (off zg) hg, fun _ => rfl⟩,
    RepOs.mono (Same.refl _) _ _ _ (off za.2.2.2) b2, fun _ => rfl⟩, ?_, io⟩
  have w2 : Wd B F H (fun b => f1 b + (((if b = a then 1 else 0) + g b) + g5 b)) := w.less fun b => by
    show f1 b + (((if b = a then 1 else 0) + g b) + g5 b) ≤ f1 b + f2 b
    have := tot b; have := hle b; omega
  have fa : F a = none := w.dF a (by have := tot a; rw [if_pos rfl] at this; show 0 < f1 a + f2 a; omega)
  have ra : B.R a = none := w.dR a (by have := tot a; rw [if_pos rfl] at this; show 0 < f1 a + f2 a; omega)
  exact ⟨w2.nd, w2.dF, w2.dR, fun b x e => by rw [upd_ne (ne_of_none e fa)]; exact w.sF b x e, fun b x e => by rw [upd_ne (ne_of_none e ra)]; exact w.sR b x e, w.s0, w.fr⟩
/-- behind a call that left all as it was, and made something -/
theorem StT.called {F' H' : Hp} {g : Ct} (s : StT K B F H σ τ vs ds) (h1 : Same F F') (h2 : Same F' H') (h3 : Same H H') (hv : RepO K B.ca F' H' d v g) (h4 : ∀ a, g a ≤ 1) (h5 : ∀ a, 0 < g a → F' a = none ∧ H a = none)
    (h6 : ∀ a, F' a ≠ none → F a ≠ none ∨ H a = none) : StT K B F' H' σ τ (v :: vs) (d :: ds) := by
  obtain ⟨f1, f2, a, b, w, io⟩ := s
  have k : ∀ x, H x ≠ none → H' x = H x := fun x hx => by
    cases e : H x with
    | none => exact absurd e hx
    | some o => exact h3 _ _ e
  have t1 : ∀ x, 0 < f1 x → H x ≠ none := a.there
  have t2 : ∀ x, 0 < f2 x → H x ≠ none := b.there _ _ _
  refine ⟨f1, fun b => g b + f2 b, a.mono h1 fun x hx => k x (t1 x hx), ⟨v, vs, g, f2, rfl, hv, RepOs.mono h1 _ _ _ (fun x hx => k x (t2 x hx)) b, fun _ => rfl⟩, ?_, io⟩
  have split : ∀ x, 0 < f1 x + (g x + f2 x) → (0 < g x ∧ f1 x = 0 ∧ f2 x = 0) ∨ (g x = 0 ∧ 0 < f1 x + f2 x) := fun x hx => by
    by_cases q : 0 < g x
    · have hn := (h5 x q).2
      have : ¬ 0 < f1 x := fun h => t1 x h hn
      have : ¬ 0 < f2 x := fun h => t2 x h hn
      exact .inl ⟨q, by omega, by omega⟩
    · exact .inr ⟨by omega, by omega⟩
  have old : ∀ x, 0 < f1 x + f2 x → H x ≠ none := fun x hx => by
    by_cases q : 0 < f1 x
    · exact t1 x q
    · exact t2 x (by omega)
  refine ⟨fun x => ?_, fun x hx => ?_, fun x hx => ?_, h2, w.sR.trans h3, w.s0.trans h1, fun x hx => ?_⟩
  · show f1 x + (g x + f2 x) ≤ 1
    by_cases q : 0 < f1 x + (g x + f2 x)
    · rcases split x q with ⟨_, e1, e2⟩ | ⟨e1, _⟩
      · have := h4 x; omega
      · have := w.nd x; omega
    · omega
  · rcases split x hx with ⟨e0, _⟩ | ⟨_, e0⟩
    · exact (h5 x e0).1
    · have hF := w.dF x e0
      cases e : F' x with
      | none => rfl
      | some o =>
        rcases h6 x (by rw [e]; exact fun z => by cases z) with z | z
        · exact absurd hF z
        · exact absurd z (old x e0)
  · rcases split x hx with ⟨e0, _⟩ | ⟨_, e0⟩
    · cases e : B.R x with
      | none => rfl
      | some o => have z := (h5 x e0).2; rw [w.sR _ _ e] at z; cases z
    · exact w.dR x e0
  · rcases h6 x hx with z | z
    · exact w.fr x z
    · refine .inr ?_
      cases e : B.R x with
      | none => rfl
      | some o => rw [w.sR _ _ e] at z; cases z
/-- the heap has grown -/
theorem StT.grown {H' : Hp} (s : StT K B F H σ τ vs ds) (h : Same H H') : StT K B F H' σ τ vs ds := by
  obtain ⟨f1, f2, a, b, w, io⟩ := s
  have k : ∀ x, H x ≠ none → H' x = H x := fun x hx => by
    cases e : H x with
    | none => exact absurd e hx
    | some o => exact h _ _ e
  exact ⟨f1, f2, a.mono (Same.refl _) fun x hx => k x (a.there x hx), RepOs.mono (Same.refl _) _ _ _ (fun x hx => k x (b.there _ _ _ x hx)) b, ⟨w.nd, w.dF, w.dR, w.sF.trans h, w.sR.trans h, w.s0, w.fr⟩, io⟩
end
end Bn

/-! Readings by functions of trees. -/
namespace Bn
open PySem PySem.Spec PyProof.Rows L2

inductive R (α : Type) where
  | ok (a : α) (τ : Env) | ex (c : Str) (τ : Env) | bad
inductive SR where
  | nx (τ : Env) | rt (d : D) (τ : Env) | bk (τ : Env) | ct (τ : Env) | ex (c : Str) (τ : Env) | bad
inductive CR where
  | ok (d : D) | ex (c : Str) | bad
abbrev ME := Env → R D
abbrev MZ := Env → Option D
abbrev MT := Env → R Bool
abbrev MA := Env → R (List D)
abbrev MS := Env → SR

def R.bind {α β : Type} : R α → (α → Env → R β) → R β
  | .ok a τ, k => k a τ
  | .ex c τ, _ => .ex c τ
  | .bad, _ => .bad
def post {α : Type} (y : α → Env → Prop) (x : Str → Env → Prop) : R α → Prop
  | .ok a τ => y a τ
  | .ex c τ => x c τ
  | .bad => False
theorem post_bind {α β : Type} {y : β → Env → Prop} {x : Str → Env → Prop} {r : R α} {k : α → Env → R β} (h : post y x (r.bind k)) : post (fun a τ => post y x (k a τ)) x r := by
  cases r <;> exact h
theorem post_imp {α : Type} {y y' : α → Env → Prop} {x x' : Str → Env → Prop} {r : R α} (h : post y x r) (hy : ∀ a τ, y a τ → y' a τ) (hx : ∀ c τ, x c τ → x' c τ) : post y' x' r := by
  cases r with
  | ok a τ => exact hy _ _ h
  | ex c τ => exact hx _ _ h
  | bad => exact h

section
variable {X : Cx}
theorem PE.imp {e : Expr} {t t' : TE} (h : PE X e t) (k : ∀ σ H Q, t' σ H Q → t σ H Q) : PE X e t' := ⟨fun p s σ H Q I q => h.run p s σ H Q I (k _ _ _ q)⟩
theorem PT.imp {e : Expr} {t t' : TT} (h : PT X e t) (k : ∀ σ H Q, t' σ H Q → t σ H Q) : PT X e t' := ⟨fun p s σ H Q I q => h.run p s σ H Q I (k _ _ _ q)⟩
theorem PW.imp {e : Expr} {t t' : TT} (h : PW X e t) (k : ∀ σ H Q, t' σ H Q → t σ H Q) : PW X e t' := ⟨fun w p s σ H Q I q => h.run w p s σ H Q I (k _ _ _ q)⟩
theorem PA.imp {e : List Expr} {t t' : TA} (h : PA X e t) (k : ∀ σ H Q, t' σ H Q → t σ H Q) : PA X e t' := ⟨fun z p s σ H Q I q => h.run z p s σ H Q I (k _ _ _ q)⟩
theorem PS.imp {e : Stmt} {t t' : TS} (h : PS X e t) (k : ∀ D σ H, t' D σ H → t D σ H) : PS X e t' := ⟨fun p s σ H D I q => h.run p s σ H D I (k _ _ _ q)⟩
theorem PSs.imp {e : List Stmt} {t t' : TS} (h : PSs X e t) (k : ∀ D σ H, t' D σ H → t D σ H) : PSs X e t' := ⟨fun p s σ H D I q => h.run p s σ H D I (k _ _ _ q)⟩
theorem PG.imp {e : Expr} {t t' : TG} (h : PG X e t) (k : ∀ v σ H Q, t' v σ H Q → t v σ H Q) : PG X e t' := ⟨fun p s σ H v u Q I r q => h.run p s σ H v u Q I r (k _ _ _ _ q)⟩
theorem PGs.imp {e : List Expr} {t t' : TGs} (h : PGs X e t) (k : ∀ v σ H Q, t' v σ H Q → t v σ H Q) : PGs X e t' := ⟨fun p s σ H v u Q I r q => h.run p s σ H v u Q I r (k _ _ _ _ q)⟩
end

section
variable (K : PySem.W.Frag) (B : Bx) (W : WX)
def exW (σ : L2.St) (vs : List V) (ds : List D) : Str → Env → Prop := fun c τ' => ∀ F' H', StT K B F' H' σ τ' vs ds → W (.ref (B.ca c)) none σ H'
def rdE (m : ME) : TE := fun σ H Q => ∃ F τ vs ds, StT K B F H σ τ vs ds ∧ post (fun d τ' => ∀ v F' H', StT K B F' H' σ τ' (v :: vs) (d :: ds) → Q v H') (exW K B W σ vs ds) (m τ)
def rdA (m : MA) : TA := fun σ H Q => ∃ F τ vs ds, StT K B F H σ τ vs ds ∧ post (fun es τ' => ∀ us F' H', us.length = es.length → StT K B F' H' σ τ' (us ++ vs) (es ++ ds) → Q us H') (exW K B W σ vs ds) (m τ)
def rdT (m : MT) : TT := fun σ H Q => ∃ F τ vs ds, StT K B F H σ τ vs ds ∧ post (fun b τ' => ∀ F' H', StT K B F' H' σ τ' vs ds → Q b H') (exW K B W σ vs ds) (m τ)
def rdZ (m : MZ) : TE := fun σ H Q => ∃ F τ vs ds, StT K B F H σ τ vs ds ∧ ∃ d, m τ = some d ∧ ∀ v f, RepO K B.ca F H d v f → Q v H
def postS (vs : List V) (ds : List D) (D : Ends) : SR → Prop
  | .nx τ => ∀ σ F H, StT K B F H σ τ vs ds → D.nx σ H
  | .rt d τ => ∀ v σ F H, StT K B F H σ τ (v :: vs) (d :: ds) → D.rt v H
  | .bk τ => ∀ σ F H, StT K B F H σ τ vs ds → D.bk σ H
  | .ct τ => ∀ σ F H, StT K B F H σ τ vs ds → D.ct σ H
  | .ex c τ => ∀ σ F H, StT K B F H σ τ vs ds → W (.ref (B.ca c)) none σ H
  | .bad => False
def rdS (m : MS) : TS := fun D σ H => ∃ F τ vs ds, StT K B F H σ τ vs ds ∧ postS K B W vs ds D (m τ)
/-- a target; sl: the slots that it sets -/
def rdG (sl : List Nat) (g : D → Env → Option Env) : TG := fun v σ H Q => ∃ F τ vs ds d, StT K B F H σ τ (v :: vs) (d :: ds) ∧ ∃ τ', g d τ = some τ' ∧
  ∀ σ' F' H', StT K B F' H' σ' τ' vs ds → σ'.length = σ.length → (∀ j, j ∉ sl → σ'[j]? = σ[j]?) → Q σ' H'
def rdGs (sl : List Nat) (g : List D → Env → Option Env) : TGs := fun ws σ H Q => ∃ F τ vs ds es, ws.length = es.length ∧ StT K B F H σ τ (ws ++ vs) (es ++ ds) ∧ ∃ τ', g es τ = some τ' ∧
  ∀ σ' F' H', StT K B F' H' σ' τ' vs ds → σ'.length = σ.length → (∀ j, j ∉ sl → σ'[j]? = σ[j]?) → Q σ' H'
end

/-! ### names and constants -/
def zVar (i : Nat) : MZ := fun τ => τ.getD i none
def zC (d : D) : MZ := fun _ => some d
theorem getD_some {τ : Env} {i : Nat} {d : D} (h : τ.getD i none = some d) : τ[i]? = some (some d) := by
  rw [List.getD_eq_getElem?_getD] at h
  cases e : τ[i]? with
  | none => rw [e] at h; cases h
  | some x => rw [e] at h; exact congrArg some h
section
variable {X : Cx} {B : Bx} {W : WX}
theorem z_var {i : Nat} {e : Expr} (h : PE X e (tVar i)) : PE X e (rdZ X.K B (zVar i)) := PE.imp h fun σ H Q ⟨F, τ, vs, ds, s, d, e, k⟩ => by
  obtain ⟨v, f, h1, h2⟩ := s.get (getD_some e)
  exact ⟨v, h1, k v f h2⟩
theorem z_c {e : Expr} {d : D} {v : V} (h : PE X e (tC v)) (hd : ∀ F, Rep X.K B.ca F d v) : PE X e (rdZ X.K B (zC d)) := PE.imp h fun σ H Q ⟨F, τ, vs, ds, s, d', e, k⟩ => by
  cases (show some d = some d' from e)
  exact k v _ (hd F).o
theorem z_int {i j pos} : PE X (.Constant (.int i) j pos) (rdZ X.K B (zC (.int i))) := z_c pe_int fun _ => rfl
theorem z_bl {b j pos} : PE X (.Constant (.bool b) j pos) (rdZ X.K B (zC (.bl b))) := z_c pe_bl fun _ => rfl
theorem z_non {j pos} : PE X (.Constant .none j pos) (rdZ X.K B (zC .non)) := z_c pe_non fun _ => rfl
theorem z_str {x j pos} : PE X (.Constant (.str x) j pos) (rdZ X.K B (zC (.str x))) := z_c pe_str fun _ => rfl
theorem z_ty {x : Str} {n : String} {pos : Pos} (hg : Gl X x) (hm : X.mg x = none) (hv : bootBuiltins x = some (.type n)) (hn : x ≠ "__name__" := by decide) (hd : (x == ("__debug__" : Str)) = false := by decide) : PE X (.Name x pos) (rdZ X.K B (zC (.ty n))) :=
  z_c (pe_bltn (v := .ty n) hg hm hv rfl hn hd) fun _ => rfl

/-! ### from Z to E -/
def eZ (m : MZ) : ME := fun τ => match m τ with
  | some d => if isFz d = true then .ok d τ else .bad
  | none => .bad
theorem e_z {e : Expr} {m : MZ} (h : PE X e (rdZ X.K B m)) : PE X e (rdE X.K B W (eZ m)) := PE.imp h fun σ H Q ⟨F, τ, vs, ds, s, k⟩ => by
  unfold eZ at k
  cases e : m τ with
  | none => rw [e] at k; exact k.elim
  | some d =>
    rw [e] at k
    by_cases z : isFz d = true
    · simp only [z, if_true] at k
      exact ⟨F, τ, vs, ds, s, d, e, fun v f r => k v F H (s.push ((repO_fz z).mp r).1)⟩
    · simp only [z] at k
      exact k.elim
/-- a name's value; what it owns is given up -/
def eVar (i : Nat) : ME := fun τ => match τ.getD i none with
  | some d => if isFz d = true then .ok d τ else .ok (freeze d) (τ.set i (some (freeze d)))
  | none => .bad
theorem e_var {i : Nat} {e : Expr} (h : PE X e (tVar i)) : PE X e (rdE X.K B W (eVar i)) := PE.imp h fun σ H Q ⟨F, τ, vs, ds, s, k⟩ => by
  unfold eVar at k
  cases e : τ.getD i none with
  | none => rw [e] at k; exact k.elim
  | some d =>
    rw [e] at k
    have e' := getD_some e
    by_cases z : isFz d = true
    · simp only [z, if_true] at k
      obtain ⟨v, f, h1, h2⟩ := s.get e'
      exact ⟨v, h1, k v F H (s.push ((repO_fz z).mp h2).1)⟩
    · simp only [z] at k
      obtain ⟨v, h1, s1⟩ := s.take e'
      obtain ⟨F', sm, ⟨_, _, e2, r, _⟩, s2⟩ := StT.freeze (us := [v]) (es := [d]) s1 rfl
      cases e2
      have s3 := StT.putBack (s2.push r) (i := i) (by rw [List.length_set]; exact (List.getElem?_eq_some_iff.mp e').1) h1
      rw [List.set_set] at s3
      exact ⟨v, h1, k v F' H (s3.push r)⟩
/-- a name gives its value away -/
def eMv (i : Nat) : ME := fun τ => match τ.getD i none with
  | some d => .ok d (τ.set i none)
  | none => .bad
theorem e_mv {i : Nat} {e : Expr} (h : PE X e (tVar i)) : PE X e (rdE X.K B W (eMv i)) := PE.imp h fun σ H Q ⟨F, τ, vs, ds, s, k⟩ => by
  unfold eMv at k
  cases e : τ.getD i none with
  | none => rw [e] at k; exact k.elim
  | some d =>
    rw [e] at k
    obtain ⟨v, h1, s1⟩ := s.take (getD_some e)
    exact ⟨v, h1, k v F H s1⟩

/-! ### operators by values -/
def OpS (K : PySem.W.Frag) (r : R2) (g : D → D → Option D) : Prop := ∀ (ca : Str → Addr) (F H : Hp) (x y : V) (a b d : D) (f1 f2 : Ct) (Q : VK), Same F H → RepO K ca F H a x f1 → RepO K ca F H b y f2 → g a b = some d → (∀ v f, RepO K ca F H d v f → Q v H) → r x y H Q
def UnS (K : PySem.W.Frag) (r : V → Hp → VK → Prop) (g : D → Option D) : Prop := ∀ (ca : Str → Addr) (F H : Hp) (x : V) (a d : D) (f1 : Ct) (Q : VK), Same F H → RepO K ca F H a x f1 → g a = some d → (∀ v f, RepO K ca F H d v f → Q v H) → r x H Q
def CallS (K : PySem.W.Frag) (r : List V → Hp → VK → Prop) (g : List D → Option D) : Prop := ∀ (ca : Str → Addr) (F H : Hp) (xs : List V) (as : List D) (d : D) (f1 : Ct) (Q : VK), Same F H → RepOs K ca F H as xs f1 → g as = some d → (∀ v f, RepO K ca F H d v f → Q v H) → r xs H Q
def z2 (g : D → D → Option D) (m n : MZ) : MZ := fun τ => (m τ).bind fun a => (n τ).bind fun b => g a b
def z1 (g : D → Option D) (m : MZ) : MZ := fun τ => (m τ).bind g
def ofO (o : Option D) (τ : Env) : R D := match o with
  | some d => if isFz d = true then .ok d τ else .bad
  | none => .bad
def e2 (g : D → D → Option D) (m n : ME) : ME := fun τ => (m τ).bind fun a τ1 => (n τ1).bind fun b τ2 => ofO (g a b) τ2
def e1 (g : D → Option D) (m : ME) : ME := fun τ => (m τ).bind fun a τ1 => ofO (g a) τ1
def eC (g : List D → Option D) (m : MA) : ME := fun τ => (m τ).bind fun a τ1 => ofO (g a) τ1
theorem post_ofO {y : D → Env → Prop} {x : Str → Env → Prop} {o : Option D} {τ : Env} (h : post y x (ofO o τ)) : ∃ d, o = some d ∧ isFz d = true ∧ y d τ := by
  unfold ofO at h
  cases o with
  | none => exact h.elim
  | some d =>
    by_cases z : isFz d = true
    · simp only [z, if_true] at h; exact ⟨d, rfl, z, h⟩
    · simp only [z] at h; exact h.elim
theorem bind_some {α β : Type} {o : Option α} {k : α → Option β} {d : β} (h : o.bind k = some d) : ∃ a, o = some a ∧ k a = some d := by
  cases o with
  | none => cases h
  | some a => exact ⟨a, rfl, h⟩
theorem imp2Z {r : R2} {g : D → D → Option D} {m n : MZ} (hs : OpS X.K r g) (σ : L2.St) (H : Hp) (Q : VK) (h : rdZ X.K B (z2 g m n) σ H Q) : tOp r (rdZ X.K B m) (rdZ X.K B n) σ H Q := by
  obtain ⟨F, τ, vs, ds, s, d, e, k⟩ := h
  obtain ⟨a, ea, e⟩ := bind_some e
  obtain ⟨b, eb, e⟩ := bind_some e
  exact ⟨F, τ, vs, ds, s, a, ea, fun x f1 hx => ⟨F, τ, vs, ds, s, b, eb, fun y f2 hy => hs _ _ _ _ _ _ _ _ _ _ _ s.same hx hy e k⟩⟩
theorem imp2E {r : R2} {g : D → D → Option D} {m n : ME} (hs : OpS X.K r g) (σ : L2.St) (H : Hp) (Q : VK) (h : rdE X.K B W (e2 g m n) σ H Q) : tOp r (rdE X.K B W m) (rdE X.K B W n) σ H Q := by
  obtain ⟨F, τ, vs, ds, s, p⟩ := h
  refine ⟨F, τ, vs, ds, s, post_imp (post_bind p) (fun a τ1 q x F1 H1 s1 => ⟨F1, τ1, _, _, s1, post_imp (post_bind q) (fun b τ2 q y F2 H2 s2 => ?_) fun c τ2 q F2 H2 s2 => q F2 H2 s2.pop⟩) fun _ _ q => q⟩
  obtain ⟨d, e, z, q⟩ := post_ofO q
  obtain ⟨f2, hy⟩ := s2.top
  obtain ⟨f1, hx⟩ := s2.pop.top
  exact hs _ _ _ _ _ _ _ _ _ _ _ s2.same hx hy e fun v f hv => q v F2 H2 (s2.pop.pop.push ((repO_fz z).mp hv).1)
theorem imp1Z {r : V → Hp → VK → Prop} {g : D → Option D} {m : MZ} (hs : UnS X.K r g) (σ : L2.St) (H : Hp) (Q : VK) (h : rdZ X.K B (z1 g m) σ H Q) : tUn r (rdZ X.K B m) σ H Q := by
  obtain ⟨F, τ, vs, ds, s, d, e, k⟩ := h
  obtain ⟨a, ea, e⟩ := bind_some e
  exact ⟨F, τ, vs, ds, s, a, ea, fun x f1 hx => hs _ _ _ _ _ _ _ _ s.same hx e k⟩
theorem imp1E {r : V → Hp → VK → Prop} {g : D → Option D} {m : ME} (hs : UnS X.K r g) (σ : L2.St) (H : Hp) (Q : VK) (h : rdE X.K B W (e1 g m) σ H Q) : tUn r (rdE X.K B W m) σ H Q := by
  obtain ⟨F, τ, vs, ds, s, p⟩ := h
  refine ⟨F, τ, vs, ds, s, post_imp (post_bind p) (fun a τ1 q x F1 H1 s1 => ?_) fun _ _ q => q⟩
  obtain ⟨d, e, z, q⟩ := post_ofO q
  obtain ⟨f1, hx⟩ := s1.top
  exact hs _ _ _ _ _ _ _ _ s1.same hx e fun v f hv => q v F1 H1 (s1.pop.push ((repO_fz z).mp hv).1)
theorem z_op {op : Operator} {a b : Expr} {pos : Pos} {r : R2} {g : D → D → Option D} {m n : MZ} (ho : OpR X (binaryOp op) r) (hs : OpS X.K r g) (ha : PE X a (rdZ X.K B m)) (hb : PE X b (rdZ X.K B n)) : PE X (.BinOp a op b pos) (rdZ X.K B (z2 g m n)) := PE.imp (pe_op ho ha hb) (imp2Z hs)
theorem e_op {op : Operator} {a b : Expr} {pos : Pos} {r : R2} {g : D → D → Option D} {m n : ME} (ho : OpR X (binaryOp op) r) (hs : OpS X.K r g) (ha : PE X a (rdE X.K B W m)) (hb : PE X b (rdE X.K B W n)) : PE X (.BinOp a op b pos) (rdE X.K B W (e2 g m n)) := PE.imp (pe_op ho ha hb) (imp2E hs)
theorem z_un {op : UnaryOp} {a : Expr} {pos : Pos} {r : V → Hp → VK → Prop} {g : D → Option D} {m : MZ} (ho : UnR X (unaryOp op) r) (hs : UnS X.K r g) (ha : PE X a (rdZ X.K B m)) : PE X (.UnaryOp op a pos) (rdZ X.K B (z1 g m)) := PE.imp (pe_un ho ha) (imp1Z hs)
theorem e_un {op : UnaryOp} {a : Expr} {pos : Pos} {r : V → Hp → VK → Prop} {g : D → Option D} {m : ME} (ho : UnR X (unaryOp op) r) (hs : UnS X.K r g) (ha : PE X a (rdE X.K B W m)) : PE X (.UnaryOp op a pos) (rdE X.K B W (e1 g m)) := PE.imp (pe_un ho ha) (imp1E hs)
theorem z_ix {a b : Expr} {pos : Pos} {r : R2} {g : D → D → Option D} {m n : MZ} (ho : IxR X r) (hs : OpS X.K r g) (ha : PE X a (rdZ X.K B m)) (hb : PE X b (rdZ X.K B n)) (hp : PlainIx b := by exact fun _ _ => rfl) : PE X (.Subscript a b pos) (rdZ X.K B (z2 g m n)) := PE.imp (pe_ix ho ha hb hp) (imp2Z hs)
theorem e_ix {a b : Expr} {pos : Pos} {r : R2} {g : D → D → Option D} {m n : ME} (ho : IxR X r) (hs : OpS X.K r g) (ha : PE X a (rdE X.K B W m)) (hb : PE X b (rdE X.K B W n)) (hp : PlainIx b := by exact fun _ _ => rfl) : PE X (.Subscript a b pos) (rdE X.K B W (e2 g m n)) := PE.imp (pe_ix ho ha hb hp) (imp2E hs)
theorem z_cmp {op : CmpOp} {a b : Expr} {pos : Pos} {r : R2} {g : D → D → Option D} {m n : MZ} (ho : OpR X (compareOp op) r) (hs : OpS X.K r g) (ha : PE X a (rdZ X.K B m)) (hb : PE X b (rdZ X.K B n)) (hm : behindInMarks op b = false := by first | exact nomark _ | rfl) : PE X (.Compare a [op] [b] pos) (rdZ X.K B (z2 g m n)) := PE.imp (pe_cmpR ho ha hb hm) (imp2Z hs)
theorem e_cmp {op : CmpOp} {a b : Expr} {pos : Pos} {r : R2} {g : D → D → Option D} {m n : ME} (ho : OpR X (compareOp op) r) (hs : OpS X.K r g) (ha : PE X a (rdE X.K B W m)) (hb : PE X b (rdE X.K B W n)) (hm : behindInMarks op b = false := by first | exact nomark _ | rfl) : PE X (.Compare a [op] [b] pos) (rdE X.K B W (e2 g m n)) := PE.imp (pe_cmpR ho ha hb hm) (imp2E hs)

/-! ### tests -/
def tE (m : ME) : MT := fun τ => (m τ).bind fun d τ1 => match d with
  | .bl b => .ok b τ1
  | _ => .bad
def tZ (m : MZ) : MT := fun τ => match m τ with
  | some (.bl b) => .ok b τ
  | _ => .bad
theorem impTE {m : ME} (σ : L2.St) (H : Hp) (Q : Bool → Hp → Prop) (h : rdT X.K B W (tE m) σ H Q) : rdE X.K B W m σ H fun x H' => ∃ k, x = .bl k ∧ Q k H' := by
  obtain ⟨F, τ, vs, ds, s, p⟩ := h
  refine ⟨F, τ, vs, ds, s, post_imp (post_bind p) (fun d τ1 q x F1 H1 s1 => ?_) fun _ _ q => q⟩
  cases d with
  | bl b => exact ⟨b, s1.topF rfl, q F1 H1 s1.pop⟩
  | _ => exact False.elim q
theorem impTZ {m : MZ} (σ : L2.St) (H : Hp) (Q : Bool → Hp → Prop) (h : rdT X.K B W (tZ m) σ H Q) : rdZ X.K B m σ H fun x H' => ∃ k, x = .bl k ∧ Q k H' := by
  obtain ⟨F, τ, vs, ds, s, p⟩ := h
  unfold tZ at p
  cases e : m τ with
  | none => rw [e] at p; exact False.elim p
  | some d =>
    rw [e] at p
    cases d with
    | bl b => exact ⟨F, τ, vs, ds, s, _, e, fun v f r => ⟨b, r.1, p F H s⟩⟩
    | _ => exact False.elim p
theorem t_valZ {e : Expr} {m : MZ} (h : PE X e (rdZ X.K B m)) (he : ∀ whole, isTrue e X.env whole = (do let v ← whole; standAt e.pos; holding [v] (truthy v)) := by intro _; rfl) : PT X e (rdT X.K B W (tZ m)) := PT.imp (pt_val h he) impTZ
theorem t_valE {e : Expr} {m : ME} (h : PE X e (rdE X.K B W m)) (he : ∀ whole, isTrue e X.env whole = (do let v ← whole; standAt e.pos; holding [v] (truthy v)) := by intro _; rfl) : PT X e (rdT X.K B W (tE m)) := PT.imp (pt_val h he) impTE
theorem t_cmpZ {op : CmpOp} {a b : Expr} {pos : Pos} {r : R2} {g : D → D → Option D} {m n : MZ} (ho : OpR X (compareOp op) r) (hs : OpS X.K r g) (ha : PE X a (rdZ X.K B m)) (hb : PE X b (rdZ X.K B n)) (hm : behindInMarks op b = false := by first | exact nomark _ | rfl) : PT X (.Compare a [op] [b] pos) (rdT X.K B W (tZ (z2 g m n))) :=
  PT.imp (pt_cmpR ho ha hb hm) fun σ H Q h => imp2Z hs σ H _ (impTZ σ H Q h)
theorem t_cmpE {op : CmpOp} {a b : Expr} {pos : Pos} {r : R2} {g : D → D → Option D} {m n : ME} (ho : OpR X (compareOp op) r) (hs : OpS X.K r g) (ha : PE X a (rdE X.K B W m)) (hb : PE X b (rdE X.K B W n)) (hm : behindInMarks op b = false := by first | exact nomark _ | rfl) : PT X (.Compare a [op] [b] pos) (rdT X.K B W (tE (e2 g m n))) :=
  PT.imp (pt_cmpR ho ha hb hm) fun σ H Q h => imp2E hs σ H _ (impTE σ H Q h)
def tAnd (a b : MT) : MT := fun τ => (a τ).bind fun x τ1 => if x = true then b τ1 else .ok false τ1
def tOr (a b : MT) : MT := fun τ => (a τ).bind fun x τ1 => if x = true then .ok true τ1 else b τ1
def tNot (a : MT) : MT := fun τ => (a τ).bind fun x τ1 => .ok (!x) τ1
theorem t_and1 {a : Expr} {pos : Pos} {m : MT} (ha : PT X a (rdT X.K B W m)) : PW X (.BoolOp .And [a] pos) (rdT X.K B W m) := pw_and1 ha
theorem t_or1 {a : Expr} {pos : Pos} {m : MT} (ha : PT X a (rdT X.K B W m)) : PW X (.BoolOp .Or [a] pos) (rdT X.K B W m) := pw_or1 ha
theorem t_and {a b : Expr} {r : List Expr} {pos : Pos} {m n : MT} (ha : PT X a (rdT X.K B W m)) (hb : PW X (.BoolOp .And (b :: r) pos) (rdT X.K B W n)) : PW X (.BoolOp .And (a :: b :: r) pos) (rdT X.K B W (tAnd m n)) := PW.imp (pw_and ha hb) fun σ H Q h => by
  obtain ⟨F, τ, vs, ds, s, p⟩ := h
  refine ⟨F, τ, vs, ds, s, post_imp (post_bind p) (fun b τ1 q F1 H1 s1 => ?_) fun _ _ q => q⟩
  cases b with
  | true => exact ⟨F1, τ1, vs, ds, s1, q⟩
  | false => exact q F1 H1 s1
theorem t_or {a b : Expr} {r : List Expr} {pos : Pos} {m n : MT} (ha : PT X a (rdT X.K B W m)) (hb : PW X (.BoolOp .Or (b :: r) pos) (rdT X.K B W n)) : PW X (.BoolOp .Or (a :: b :: r) pos) (rdT X.K B W (tOr m n)) := PW.imp (pw_or ha hb) fun σ H Q h => by
  obtain ⟨F, τ, vs, ds, s, p⟩ := h
  refine ⟨F, τ, vs, ds, s, post_imp (post_bind p) (fun b τ1 q F1 H1 s1 => ?_) fun _ _ q => q⟩
  cases b with
  | false => exact ⟨F1, τ1, vs, ds, s1, q⟩
  | true => exact q F1 H1 s1
theorem t_not {a : Expr} {pos : Pos} {m : MT} (ha : PT X a (rdT X.K B W m)) : PT X (.UnaryOp .Not a pos) (rdT X.K B W (tNot m)) := PT.imp (pt_not ha) fun σ H Q h => by
  obtain ⟨F, τ, vs, ds, s, p⟩ := h
  exact ⟨F, τ, vs, ds, s, post_imp (post_bind p) (fun b τ1 q F1 H1 s1 => q F1 H1 s1) fun _ _ q => q⟩
/-- chains a < b < c -/
def zChain (g g' : D → D → Option D) (a b c : MZ) : MZ := fun τ => (a τ).bind fun x => (b τ).bind fun y => (g x y).bind fun z => match z with
  | .bl true => (c τ).bind fun w => g' y w
  | .bl false => some (.bl false)
  | _ => none
theorem impChZ {r r' : R2} {g g' : D → D → Option D} {l m n : MZ} (hs : OpS X.K r g) (hs' : OpS X.K r' g') (σ : L2.St) (H : Hp) (Q : VK) (h : rdZ X.K B (zChain g g' l m n) σ H Q) : tChain r r' (rdZ X.K B l) (rdZ X.K B m) (rdZ X.K B n) σ H Q := by
  obtain ⟨F, τ, vs, ds, s, d, e, k⟩ := h
  obtain ⟨a, ea, e⟩ := bind_some e
  obtain ⟨b, eb, e⟩ := bind_some e
  obtain ⟨z, ez, e⟩ := bind_some e
  refine ⟨F, τ, vs, ds, s, a, ea, fun x f1 hx => ⟨F, τ, vs, ds, s, b, eb, fun y f2 hy => hs _ _ _ _ _ _ _ _ _ _ _ s.same hx hy ez fun v f hv => ?_⟩⟩
  cases z with
  | bl t =>
    refine ⟨t, hv.1, ?_⟩
    cases t with
    | true =>
      obtain ⟨c, ec, e⟩ := bind_some e
      exact ⟨F, τ, vs, ds, s, c, ec, fun w f3 hw => hs' _ _ _ _ _ _ _ _ _ _ _ s.same hy hw e k⟩
    | false =>
      cases (show some (D.bl false) = some d from e)
      exact k (.bl false) _ (Rep.o (d := .bl false) rfl)
  | _ => cases e
theorem z_chain {op op' : CmpOp} {a b c : Expr} {pos : Pos} {r r' : R2} {g g' : D → D → Option D} {l m n : MZ} (ho : OpR X (compareOp op) r) (hs : OpS X.K r g) (ho' : OpR X (compareOp op') r') (hs' : OpS X.K r' g') (ha : PE X a (rdZ X.K B l)) (hb : PE X b (rdZ X.K B m)) (hc : PE X c (rdZ X.K B n))
    (hm : lastMarks [op, op'] [b, c] = false := by with_unfolding_all rfl) : PE X (.Compare a [op, op'] [b, c] pos) (rdZ X.K B (zChain g g' l m n)) := PE.imp (pe_chain ho ho' ha hb hc hm) (impChZ hs hs')
theorem t_chain {op op' : CmpOp} {a b c : Expr} {pos : Pos} {r r' : R2} {g g' : D → D → Option D} {l m n : MZ} (ho : OpR X (compareOp op) r) (hs : OpS X.K r g) (ho' : OpR X (compareOp op') r') (hs' : OpS X.K r' g') (ha : PE X a (rdZ X.K B l)) (hb : PE X b (rdZ X.K B m)) (hc : PE X c (rdZ X.K B n))
    (hm : lastMarks [op, op'] [b, c] = false := by with_unfolding_all rfl) : PT X (.Compare a [op, op'] [b, c] pos) (rdT X.K B W (tZ (zChain g g' l m n))) := PT.imp (pt_chain ho ho' ha hb hc hm) fun σ H Q h => impChZ hs hs' σ H _ (impTZ σ H Q h)

/-! ### and, or, not, if as values -/
def eAnd (a b : ME) : ME := fun τ => (a τ).bind fun x τ1 => match x with
  | .bl true => b τ1
  | .bl false => .ok (.bl false) τ1
  | _ => .bad
def eOr (a b : ME) : ME := fun τ => (a τ).bind fun x τ1 => match x with
  | .bl false => b τ1
  | .bl true => .ok (.bl true) τ1
  | _ => .bad
def eNot (a : ME) : ME := fun τ => (a τ).bind fun x τ1 => match x with
  | .bl b => .ok (.bl (!b)) τ1
  | _ => .bad
def eIf (c : MT) (a b : ME) : ME := fun τ => (c τ).bind fun x τ1 => if x = true then a τ1 else b τ1
theorem e_one {op : BoolOp} {a : Expr} {pos : Pos} {m : ME} (h : PE X a (rdE X.K B W m)) : PE X (.BoolOp op [a] pos) (rdE X.K B W m) := pe_one h
theorem e_and {a b : Expr} {r : List Expr} {pos : Pos} {m n : ME} (ha : PE X a (rdE X.K B W m)) (hb : PE X (.BoolOp .And (b :: r) pos) (rdE X.K B W n)) : PE X (.BoolOp .And (a :: b :: r) pos) (rdE X.K B W (eAnd m n)) := PE.imp (pe_and ha hb) fun σ H Q h => by
  obtain ⟨F, τ, vs, ds, s, p⟩ := h
  refine ⟨F, τ, vs, ds, s, post_imp (post_bind p) (fun d τ1 q x F1 H1 s1 => ?_) fun _ _ q => q⟩
  cases d with
  | bl b =>
    refine ⟨b, s1.topF rfl, ?_⟩
    cases b with
    | true => exact ⟨F1, τ1, vs, ds, s1.pop, q⟩
    | false => exact q _ F1 H1 (s1.pop.push (d := .bl false) rfl)
  | _ => exact False.elim q
theorem e_or {a b : Expr} {r : List Expr} {pos : Pos} {m n : ME} (ha : PE X a (rdE X.K B W m)) (hb : PE X (.BoolOp .Or (b :: r) pos) (rdE X.K B W n)) : PE X (.BoolOp .Or (a :: b :: r) pos) (rdE X.K B W (eOr m n)) := PE.imp (pe_or ha hb) fun σ H Q h => by
  obtain ⟨F, τ, vs, ds, s, p⟩ := h
  refine ⟨F, τ, vs, ds, s, post_imp (post_bind p) (fun d τ1 q x F1 H1 s1 => ?_) fun _ _ q => q⟩
  cases d with
  | bl b =>
    refine ⟨b, s1.topF rfl, ?_⟩
    cases b with
    | false => exact ⟨F1, τ1, vs, ds, s1.pop, q⟩
    | true => exact q _ F1 H1 (s1.pop.push (d := .bl true) rfl)
  | _ => exact False.elim q
theorem e_not {a : Expr} {pos : Pos} {m : ME} (ha : PE X a (rdE X.K B W m)) : PE X (.UnaryOp .Not a pos) (rdE X.K B W (eNot m)) := PE.imp (pe_not ha) fun σ H Q h => by
  obtain ⟨F, τ, vs, ds, s, p⟩ := h
  refine ⟨F, τ, vs, ds, s, post_imp (post_bind p) (fun d τ1 q x F1 H1 s1 => ?_) fun _ _ q => q⟩
  cases d with
  | bl b => exact ⟨b, s1.topF rfl, q _ F1 H1 (s1.pop.push (d := .bl (!b)) rfl)⟩
  | _ => exact False.elim q
theorem e_if {c a b : Expr} {pos : Pos} {t : MT} {m n : ME} (hc : PT X c (rdT X.K B W t)) (ha : PE X a (rdE X.K B W m)) (hb : PE X b (rdE X.K B W n)) : PE X (.IfExp c a b pos) (rdE X.K B W (eIf t m n)) := PE.imp (pe_ifExp hc ha hb) fun σ H Q h => by
  obtain ⟨F, τ, vs, ds, s, p⟩ := h
  refine ⟨F, τ, vs, ds, s, post_imp (post_bind p) (fun b τ1 q F1 H1 s1 => ?_) fun _ _ q => q⟩
  cases b with
  | true => exact ⟨F1, τ1, vs, ds, s1, q⟩
  | false => exact ⟨F1, τ1, vs, ds, s1, q⟩

/-! ### argument lists -/
def aNil : MA := fun τ => .ok [] τ
def aCons (m : ME) (n : MA) : MA := fun τ => (m τ).bind fun d τ1 => (n τ1).bind fun ds τ2 => .ok (d :: ds) τ2
theorem a_nil : PA X [] (rdA X.K B W aNil) := PA.imp pa_nil fun σ H Q ⟨F, τ, vs, ds, s, p⟩ => p [] F H rfl s
theorem a_cons {e : Expr} {es : List Expr} {m : ME} {n : MA} (ha : PE X e (rdE X.K B W m)) (hr : PA X es (rdA X.K B W n)) (hs : starEach (e :: es) X.env = (false, eval e X.env) :: starEach es X.env := by rfl) : PA X (e :: es) (rdA X.K B W (aCons m n)) := PA.imp (pa_cons ha hr hs) fun σ H Q h => by
  obtain ⟨F, τ, vs, ds, s, p⟩ := h
  refine ⟨F, τ, vs, ds, s, post_imp (post_bind p) (fun a τ1 q x F1 H1 s1 => ⟨F1, τ1, _, _, s1, post_imp (post_bind q) (fun es τ2 q us F2 H2 hl s2 => ?_) fun c τ2 q F2 H2 s2 => q F2 H2 s2.pop⟩) fun _ _ q => q⟩
  exact q (x :: us) F2 H2 (by rw [List.length_cons, List.length_cons, hl]) (s2.swap hl)
/-- with values that are only looked at -/
def rdZA (K : PySem.W.Frag) (B : Bx) (m : Env → Option (List D)) : TA := fun σ H Q => ∃ F τ vs ds, StT K B F H σ τ vs ds ∧ ∃ es, m τ = some es ∧ ∀ us f, RepOs K B.ca F H es us f → Q us H
def zaNil : Env → Option (List D) := fun _ => some []
def zaCons (m : MZ) (n : Env → Option (List D)) : Env → Option (List D) := fun τ => (m τ).bind fun d => (n τ).bind fun ds => some (d :: ds)
theorem za_nil : PA X [] (rdZA X.K B zaNil) := PA.imp pa_nil fun σ H Q ⟨F, τ, vs, ds, s, es, e, k⟩ => by
  cases (show some [] = some es from e)
  exact k [] (fun _ => 0) ⟨rfl, fun _ => rfl⟩
theorem za_cons {e : Expr} {es : List Expr} {m : MZ} {n : Env → Option (List D)} (ha : PE X e (rdZ X.K B m)) (hr : PA X es (rdZA X.K B n)) (hs : starEach (e :: es) X.env = (false, eval e X.env) :: starEach es X.env := by rfl) : PA X (e :: es) (rdZA X.K B (zaCons m n)) := PA.imp (pa_cons ha hr hs) fun σ H Q h => by
  obtain ⟨F, τ, vs, ds, s, es, e, k⟩ := h
  obtain ⟨a, ea, e⟩ := bind_some e
  obtain ⟨bs, eb, e⟩ := bind_some e
  cases (show some (a :: bs) = some es from e)
  exact ⟨F, τ, vs, ds, s, a, ea, fun x f1 hx => ⟨F, τ, vs, ds, s, bs, eb, fun us f2 hu => k (x :: us) (fun b => f1 b + f2 b) ⟨x, us, f1, f2, rfl, hx, hu, fun _ => rfl⟩⟩⟩
def zC' (g : List D → Option D) (m : Env → Option (List D)) : MZ := fun τ => (m τ).bind g
theorem impCZ {r : List V → Hp → VK → Prop} {g : List D → Option D} {m : Env → Option (List D)} (hs : CallS X.K r g) (σ : L2.St) (H : Hp) (Q : VK) (h : rdZ X.K B (zC' g m) σ H Q) : tCB r (rdZA X.K B m) σ H Q := by
  obtain ⟨F, τ, vs, ds, s, d, e, k⟩ := h
  obtain ⟨a, ea, e⟩ := bind_some e
  exact ⟨F, τ, vs, ds, s, a, ea, fun us f hu => hs _ _ _ _ _ _ _ _ s.same hu e k⟩
theorem impCE {r : List V → Hp → VK → Prop} {g : List D → Option D} {m : MA} (hs : CallS X.K r g) (σ : L2.St) (H : Hp) (Q : VK) (h : rdE X.K B W (eC g m) σ H Q) : tCB r (rdA X.K B W m) σ H Q := by
  obtain ⟨F, τ, vs, ds, s, p⟩ := h
  refine ⟨F, τ, vs, ds, s, post_imp (post_bind p) (fun es τ1 q us F1 H1 hl s1 => ?_) fun _ _ q => q⟩
  obtain ⟨d, e, z, q⟩ := post_ofO q
  obtain ⟨f1, hu⟩ := s1.tops hl
  exact hs _ _ _ _ _ _ _ _ s1.same hu e fun v f hv => q v F1 H1 ((s1.pops hl).push ((repO_fz z).mp hv).1)
section
variable {x : Str} {p pos : Pos} {e : Expr} {es : List Expr} {id T : String} {r : List V → Hp → VK → Prop} {g : List D → Option D}
theorem z_callB {m : Env → Option (List D)} (hc : CallR X (.builtin id) r) (hs : CallS X.K r g) (hg : Gl X x) (hm : X.mg x = none) (hv : bootBuiltins x = some (.builtin id)) (ha : PA X (e :: es) (rdZA X.K B m)) (hn : x ≠ "__name__" := by decide) (hdb : (x == ("__debug__" : Str)) = false := by decide)
    (he : starEach (e :: es) X.env = (false, eval e X.env) :: starEach es X.env := by rfl) (hpl : (backTo pos (starEach es X.env)).any (·.1) = false := by rfl) : PE X (.Call (.Name x p) (e :: es) [] pos) (rdZ X.K B (zC' g m)) := PE.imp (pe_callB hc hg hm hv ha hn hdb he hpl) (impCZ hs)
theorem e_callB {m : MA} (hc : CallR X (.builtin id) r) (hs : CallS X.K r g) (hg : Gl X x) (hm : X.mg x = none) (hv : bootBuiltins x = some (.builtin id)) (ha : PA X (e :: es) (rdA X.K B W m)) (hn : x ≠ "__name__" := by decide) (hdb : (x == ("__debug__" : Str)) = false := by decide)
    (he : starEach (e :: es) X.env = (false, eval e X.env) :: starEach es X.env := by rfl) (hpl : (backTo pos (starEach es X.env)).any (·.1) = false := by rfl) : PE X (.Call (.Name x p) (e :: es) [] pos) (rdE X.K B W (eC g m)) := PE.imp (pe_callB hc hg hm hv ha hn hdb he hpl) (impCE hs)
theorem e_callTy {m : MA} (hc : CallR X (.type T) r) (hs : CallS X.K r g) (hg : Gl X x) (hm : X.mg x = none) (hv : bootBuiltins x = some (.type T)) (ha : PA X (e :: es) (rdA X.K B W m)) (hn : x ≠ "__name__" := by decide) (hdb : (x == ("__debug__" : Str)) = false := by decide)
    (he : starEach (e :: es) X.env = (false, eval e X.env) :: starEach es X.env := by rfl) (hpl : (backTo pos (starEach es X.env)).any (·.1) = false := by rfl) : PE X (.Call (.Name x p) (e :: es) [] pos) (rdE X.K B W (eC g m)) := PE.imp (pe_callTy hc hg hm hv ha hn hdb he hpl) (impCE hs)
end

/-! ### displays -/
def eTup (m : MA) : ME := fun τ => (m τ).bind fun ds τ1 => if ds.length ≤ 1000000 then .ok (.tup (freezeL ds)) τ1 else .bad
def eLst (m : MA) : ME := fun τ => (m τ).bind fun ds τ1 => if ds.length ≤ 1000000 then .ok (.lst true ds) τ1 else .bad
theorem le_sizeLine {n : Nat} (h : n ≤ 1000000) : n ≤ sizeLine := by rw [sizeLine_eq]; omega
theorem e_tup {es : List Expr} {k : Nat} {pos : Pos} {m : MA} (h : PA X es (rdA X.K B W m)) : PE X (.Tuple es k pos) (rdE X.K B W (eTup m)) := PE.imp (pe_tup h) fun σ H Q h => by
  obtain ⟨F, τ, vs, ds, s, p⟩ := h
  refine ⟨F, τ, vs, ds, s, post_imp (post_bind p) (fun es τ1 q us F1 H1 hl s1 => ?_) fun _ _ q => q⟩
  by_cases z : es.length ≤ 1000000
  · simp only [z, if_true] at q
    refine ⟨le_sizeLine (hl ▸ z), fun p hp => ?_⟩
    obtain ⟨F2, sm, rl, s2⟩ := s1.freeze hl
    exact q _ _ _ (s2.newTup hp rl)
  · simp only [z] at q; exact False.elim q
theorem e_lst {es : List Expr} {pos : Pos} {m : MA} (h : PA X es (rdA X.K B W m)) : PE X (.List es pos) (rdE X.K B W (eLst m)) := PE.imp (pe_lst h) fun σ H Q h => by
  obtain ⟨F, τ, vs, ds, s, p⟩ := h
  refine ⟨F, τ, vs, ds, s, post_imp (post_bind p) (fun es τ1 q us F1 H1 hl s1 => ?_) fun _ _ q => q⟩
  by_cases z : es.length ≤ 1000000
  · simp only [z, if_true] at q
    exact ⟨le_sizeLine (hl ▸ z), fun p hp => q _ _ _ (s1.newLst hl hp)⟩
  · simp only [z] at q; exact False.elim q
end
end Bn

/-! Calls, statements, loops, try, comprehensions; a def by its function. -/
namespace Bn
open PySem PySem.Spec PyProof.Rows L2

structure XOk (X : Cx) (W : WX) : Prop where
  tk : Takes X W
  hp : PassesOwn (model X.prog X.w) X.A X.env X.xe
  calm : X.calm = true
abbrev W0 : WX := fun _ _ _ _ => False

/-! ### calls -/
def spP (K : PySem.W.Frag) (ca : Str → Addr) (g : List D → CR) : Sp := fun vs H Q E => ∃ F ds, Same F H ∧ RepL K ca F ds vs ∧
  match g ds with
  | .ok d => ∀ v F' H' f, Same F F' → Same F' H' → Same H H' → RepO K ca F' H' d v f → (∀ a, f a ≤ 1) → (∀ a, 0 < f a → F' a = none ∧ H a = none) → (∀ a, F' a ≠ none → F a ≠ none ∨ H a = none) → Q v H'
  | .ex c => ∀ H', Same H H' → E (.ref (ca c)) none H'
  | .bad => False
structure Fo (P : Program) (w : World) (K : PySem.W.Frag) (mg : Str → Option Value) (base : Heap) (ca : Str → Addr) (k : Nat) (x : Str) (g : List D → CR) : Prop where
  ex : ∃ f fd ps, mg x = some (.ref f) ∧ PySem.W.keepIn K (.ref f) = true ∧ Binds K fd ps [] ∧ FnOk P w K mg base (L2.CX P w) k f fd ps (spP K ca g)
def ofC (r : CR) (τ : Env) : R D := match r with
  | .ok d => .ok d τ
  | .ex c => .ex c τ
  | .bad => .bad
def eCall (g : List D → CR) (m : MA) : ME := fun τ => (m τ).bind fun ds τ1 => ofC (g (freezeL ds)) τ1
def eCall0 (g : List D → CR) : ME := fun τ => match g [] with
  | .ok d => .ok d τ
  | _ => .bad
section
variable {X : Cx} {B : Bx} {W : WX}
theorem e_call {x : Str} {p pos : Pos} {e : Expr} {es : List Expr} {m : MA} {g : List D → CR} {k j : Nat} (c : XOk X W) (G : Fo X.prog X.w X.K X.mg X.base B.ca k x g) (hr : Room j X.A) (hg : Gl X x) (ha : PA X (e :: es) (rdA X.K B W m)) (hk : k ≤ j := by decide) (hdb : (x == ("__debug__" : Str)) = false := by decide)
    (he : starEach (e :: es) X.env = (false, eval e X.env) :: starEach es X.env := by rfl) (hpl : (backTo pos (starEach es X.env)).any (·.1) = false := by rfl) : PE X (.Call (.Name x p) (e :: es) [] pos) (rdE X.K B W (eCall g m)) := by
  obtain ⟨f, fd, ps, h1, h2, h3, h4⟩ := G.ex
  refine PE.imp (pe_callS h4 (hr.mono hk) hg h1 h2 h3 (fun σ => passAt c.tk σ) ha hdb he hpl) fun σ H Q h => ?_
  obtain ⟨F, τ, vs, ds, s, p⟩ := h
  refine ⟨F, τ, vs, ds, s, post_imp (post_bind p) (fun as τ1 q us F1 H1 hl s1 => ?_) fun _ _ q => q⟩
  obtain ⟨F2, sm, rl, s2⟩ := s1.freeze hl
  refine ⟨F2, freezeL as, s2.same, rl, ?_⟩
  cases eg : g (freezeL as) with
  | ok d => rw [eg] at q; exact fun v F' H' f k1 k2 k3 k4 k5 k6 k7 => q v F' H' (s2.called k1 k2 k3 k4 k5 k6 k7)
  | ex c => rw [eg] at q; exact fun H' k1 => q F2 H' (s2.grown k1)
  | bad => rw [eg] at q; exact q
theorem e_call0 {x : Str} {p pos : Pos} {g : List D → CR} {k j : Nat} (G : Fo X.prog X.w X.K X.mg X.base B.ca k x g) (hr : Room j X.A) (hg : Gl X x) (hk : k ≤ j := by decide) (hdb : (x == ("__debug__" : Str)) = false := by decide) :
    PE X (.Call (.Name x p) [] [] pos) (rdE X.K B W (eCall0 g)) := by
  obtain ⟨f, fd, ps, h1, h2, h3, h4⟩ := G.ex
  refine PE.imp (pe_call0 h4 (hr.mono hk) hg h1 h2 h3 .nil passL hdb) fun σ H Q h => ?_
  obtain ⟨F, τ, vs, ds, s, p⟩ := h
  refine ⟨F, [], s.same, rfl, ?_⟩
  unfold eCall0 at p
  cases eg : g [] with
  | ok d => rw [eg] at p; exact fun v F' H' f k1 k2 k3 k4 k5 k6 k7 => p v F' H' (s.called k1 k2 k3 k4 k5 k6 k7)
  | ex c => rw [eg] at p; exact p.elim
  | bad => rw [eg] at p; exact p

/-! ### statements -/
def R.s {α : Type} : R α → (α → Env → SR) → SR
  | .ok a τ, k => k a τ
  | .ex c τ, _ => .ex c τ
  | .bad, _ => .bad
theorem post_s {α : Type} {K : PySem.W.Frag} {vs : List V} {ds : List D} {D' : Ends} {r : R α} {k : α → Env → SR} {σ : L2.St} (h : postS K B W vs ds D' (r.s k)) : post (fun a τ => postS K B W vs ds D' (k a τ)) (exW K B W σ vs ds) r := by
  cases r with
  | ok a τ => exact h
  | ex c τ => exact fun F H s => h σ F H s
  | bad => exact h
def sSeq (s r : MS) : MS := fun τ => match s τ with
  | .nx τ' => r τ'
  | .rt d τ' => .rt d τ'
  | .bk τ' => .bk τ'
  | .ct τ' => .ct τ'
  | .ex c τ' => .ex c τ'
  | .bad => .bad
def sNil : MS := fun τ => .nx τ
theorem s_nil : PSs X [] (rdS X.K B W sNil) := PSs.imp pss_nil fun D σ H ⟨F, τ, vs, ds, s, p⟩ => p σ F H s
theorem s_one {st : Stmt} {m : MS} (h : PS X st (rdS X.K B W m)) : PSs X [st] (rdS X.K B W m) := pss_one h
theorem s_cons {st : Stmt} {r : List Stmt} {m n : MS} (h : PS X st (rdS X.K B W m)) (hr : PSs X r (rdS X.K B W n)) : PSs X (st :: r) (rdS X.K B W (sSeq m n)) := PSs.imp (pss_cons h hr) fun D σ H ⟨F, τ, vs, ds, s, p⟩ => by
  refine ⟨F, τ, vs, ds, s, ?_⟩
  unfold sSeq at p
  cases e : m τ with
  | nx τ' => rw [e] at p; exact fun σ' F' H' s' => ⟨F', τ', vs, ds, s', p⟩
  | _ => rw [e] at p; exact p
def sRet (m : ME) : MS := fun τ => (m τ).s fun d τ1 => .rt d τ1
theorem s_ret {e : Expr} {pos : Pos} {m : ME} (h : PE X e (rdE X.K B W m)) : PS X (.Return (some e) pos) (rdS X.K B W (sRet m)) := PS.imp (ps_ret h) fun D σ H ⟨F, τ, vs, ds, s, p⟩ =>
  ⟨F, τ, vs, ds, s, post_imp (post_s (σ := σ) p) (fun d τ1 q v F1 H1 s1 => q v σ F1 H1 s1) fun _ _ q => q⟩
def sRetN : MS := fun τ => .rt .non τ
theorem s_retN {pos : Pos} : PS X (.Return none pos) (rdS X.K B W sRetN) := PS.imp ps_retN fun D σ H ⟨F, τ, vs, ds, s, p⟩ => p .non σ F H (s.push (d := .non) rfl)
def sDrop (m : ME) : MS := fun τ => (m τ).s fun _ τ1 => .nx τ1
theorem s_expr {e : Expr} {pos : Pos} {m : ME} (h : PE X e (rdE X.K B W m)) (hs : swapsWith e none pos.line X.env = pure false := by rfl) : PS X (.Expr e pos) (rdS X.K B W (sDrop m)) := PS.imp (ps_expr h hs) fun D σ H ⟨F, τ, vs, ds, s, p⟩ =>
  ⟨F, τ, vs, ds, s, post_imp (post_s (σ := σ) p) (fun d τ1 q v F1 H1 s1 => q σ F1 H1 s1.pop) fun _ _ q => q⟩
theorem s_doc {x j pos pos'} : PS X (.Expr (.Constant (.str x) j pos) pos') (rdS X.K B W sNil) := PS.imp ps_doc fun D σ H ⟨F, τ, vs, ds, s, p⟩ => p σ F H s
theorem s_pass {pos : Pos} : PS X (.Pass pos) (rdS X.K B W sNil) := PS.imp ps_pass fun D σ H ⟨F, τ, vs, ds, s, p⟩ => p σ F H s
def sBk : MS := fun τ => .bk τ
def sCt : MS := fun τ => .ct τ
theorem s_break {pos : Pos} : PS X (.Break pos) (rdS X.K B W sBk) := PS.imp ps_break fun D σ H ⟨F, τ, vs, ds, s, p⟩ => p σ F H s
theorem s_continue {pos : Pos} : PS X (.Continue pos) (rdS X.K B W sCt) := PS.imp ps_continue fun D σ H ⟨F, τ, vs, ds, s, p⟩ => p σ F H s
def sIf (c : MT) (a b : MS) : MS := fun τ => (c τ).s fun x τ1 => if x = true then a τ1 else b τ1
theorem s_if {c : Expr} {a b : List Stmt} {pos : Pos} {t : MT} {m n : MS} (hc : PT X c (rdT X.K B W t)) (ha : PSs X a (rdS X.K B W m)) (hb : PSs X b (rdS X.K B W n)) : PS X (.If c a b pos) (rdS X.K B W (sIf t m n)) := PS.imp (ps_if hc ha hb) fun D σ H ⟨F, τ, vs, ds, s, p⟩ => by
  refine ⟨F, τ, vs, ds, s, post_imp (post_s (σ := σ) p) (fun x τ1 q F1 H1 s1 => ?_) fun _ _ q => q⟩
  cases x with
  | true => exact ⟨F1, τ1, vs, ds, s1, q⟩
  | false => exact ⟨F1, τ1, vs, ds, s1, q⟩

/-! ### targets -/
def gN (i : Nat) : D → Env → Option Env := fun d τ => some (τ.set i (some d))
theorem StT.put' {K : PySem.W.Frag} {F H : Hp} {σ : L2.St} {τ : Env} {vs : List V} {ds : List D} {v : V} {d : D} {i : Nat} (s : StT K B F H σ τ (v :: vs) (d :: ds)) (hf : ioFree B i) : StT K B F H (σ.set i (some v)) (τ.set i (some d)) vs ds := by
  by_cases h : i < τ.length
  · exact s.put h hf
  · have hl : σ.length = τ.length := by obtain ⟨f1, f2, a, _⟩ := s; exact a.length
    rw [List.set_eq_of_length_le (by omega), List.set_eq_of_length_le (by omega)]
    exact s.pop
theorem g_name {i : Nat} {x : Str} {pos : Pos} (hN : X.N.Nodup) (hi : X.N[i]? = some x) (hx : Loc X.env.scope x) (hio : ioFree B i := by first | (intro p hp; cases hp; done) | (intro p hp; simp only [List.mem_cons, List.not_mem_nil, or_false] at hp; rcases hp with rfl | rfl <;> simp) | (intro p hp; simp only [List.mem_cons, List.not_mem_nil, or_false] at hp; subst hp; simp)) (hf : X.fn x = true ∨ X.env.scope.names.lookup x = some .local := by first | exact .inl rfl | exact .inr rfl | assumption) : PG X (.Name x pos) (rdG X.K B [i] (gN i)) :=
  PG.imp (pg_name hN hi hx hf) fun v σ H Q ⟨F, τ, vs, ds, d, s, τ', e, k⟩ => by
    cases (show some (τ.set i (some d)) = some τ' from e)
    refine k _ F H (s.put' hio) (by rw [List.length_set]) fun j hj => ?_
    rw [List.getElem?_set_ne]
    exact fun e => hj (by simp [e])
def gNil' : List D → Env → Option Env := fun ds τ => match ds with
  | [] => some τ
  | _ => none
def gCons' (g : D → Env → Option Env) (h : List D → Env → Option Env) : List D → Env → Option Env := fun ds τ => match ds with
  | d :: r => (g d τ).bind (h r)
  | [] => none
def gT (n : Nat) (g : List D → Env → Option Env) : D → Env → Option Env := fun d τ => match d with
  | .tup es => if es.length = n then g es τ else none
  | _ => none
theorem gs_nil : PGs X [] (rdGs X.K B [] gNil') := PGs.imp pgs_nil fun ws σ H Q ⟨F, τ, vs, ds, es, hl, s, τ', e, k⟩ => by
  cases es with
  | nil =>
    cases (show some τ = some τ' from e)
    have : ws = [] := List.eq_nil_of_length_eq_zero hl
    subst this
    exact ⟨rfl, k σ F H s rfl fun _ _ => rfl⟩
  | cons a b => cases e
theorem gs_cons {e : Expr} {es : List Expr} {sl sl' : List Nat} {g : D → Env → Option Env} {h : List D → Env → Option Env} (h1 : PG X e (rdG X.K B sl g)) (h2 : PGs X es (rdGs X.K B sl' h))
    (hs : (assignEach (e :: es) X.env).map (·.2) = assign e X.env :: (assignEach es X.env).map (·.2) := by rfl) : PGs X (e :: es) (rdGs X.K B (sl ++ sl') (gCons' g h)) := PGs.imp (pgs_cons h1 h2 hs) fun ws σ H Q ⟨F, τ, vs, ds, es, hl, s, τ', e, k⟩ => by
  cases es with
  | nil => cases e
  | cons d r =>
    obtain ⟨τ1, e1, e⟩ := bind_some e
    cases ws with
    | nil => cases hl
    | cons v ws =>
      refine ⟨v, ws, rfl, F, τ, ws ++ vs, r ++ ds, d, s, τ1, e1, fun σ1 F1 H1 s1 l1 k1 => ⟨F1, τ1, vs, ds, r, by simpa using hl, s1, τ', e, fun σ2 F2 H2 s2 l2 k2 => k σ2 F2 H2 s2 (l2.trans l1) fun j hj => ?_⟩⟩
      rw [k2 j fun z => hj (List.mem_append_right _ z), k1 j fun z => hj (List.mem_append_left _ z)]
theorem g_tup {es : List Expr} {k : Nat} {pos : Pos} {sl : List Nat} {g : List D → Env → Option Env} {n : Nat} (hc : X.calm = true) (h : PGs X es (rdGs X.K B sl g)) (hn : (assignEach es X.env).length = n := by rfl) (hst : (assignEach es X.env).findIdx? (·.1) = none := by rfl) : PG X (.Tuple es k pos) (rdG X.K B sl (gT n g)) :=
  PG.imp (pg_tup hc h hn hst) fun v σ H Q ⟨F, τ, vs, ds, d, s, τ', e, k⟩ => by
    cases d with
    | tup xs =>
      obtain ⟨a, us, e1, h1, h2⟩ := s.topF rfl
      subst e1
      by_cases hl : xs.length = n
      · have e' : g xs τ = some τ' := by
          have e' : (if xs.length = n then g xs τ else none) = some τ' := e
          rw [if_pos hl] at e'; exact e'
        have hul := h2.length
        refine ⟨a, us, rfl, sqT_same s.same h1, hul.trans hl, F, τ, vs, ds, xs, hul, ?_, τ', e', k⟩
        obtain ⟨f1, f2, A, b, w, io⟩ := s.pop
        have b2 := (h2.os (H := H)).append b
        have e3 : (fun b => 0 + f2 b) = f2 := funext fun b => by omega
        rw [e3] at b2
        exact ⟨f1, f2, A, b2, w, io⟩
      · have e' : (if xs.length = n then g xs τ else none) = some τ' := e
        rw [if_neg hl] at e'; cases e'
    | _ => cases e
def sAsg (m : ME) (g : D → Env → Option Env) : MS := fun τ => (m τ).s fun d τ1 => match g d τ1 with
  | some τ2 => .nx τ2
  | none => .bad
theorem impAsg {m : ME} {sl : List Nat} {g : D → Env → Option Env} {D' : Ends} {σ : L2.St} {H : Hp} (h : rdS X.K B W (sAsg m g) D' σ H) : tAsg (rdE X.K B W m) (rdG X.K B sl g) D' σ H := by
  obtain ⟨F, τ, vs, ds, s, p⟩ := h
  refine ⟨F, τ, vs, ds, s, post_imp (post_s (σ := σ) p) (fun d τ1 q v F1 H1 s1 => ?_) fun _ _ q => q⟩
  cases e : g d τ1 with
  | none => simp only [e] at q; exact q.elim
  | some τ2 => simp only [e] at q; exact ⟨F1, τ1, vs, ds, d, s1, τ2, e, fun σ' F' H' s' _ _ => q σ' F' H' s'⟩
theorem s_asg {tg e : Expr} {pos : Pos} {m : ME} {sl : List Nat} {g : D → Env → Option Env} (he : PE X e (rdE X.K B W m)) (hg : PG X tg (rdG X.K B sl g)) (hs : swapsWithSole [tg] e pos.line X.env = pure false := by rfl) (hw : swappedStores [tg] e X.env = pure none := by rfl)
    (h1 : (assignEach [tg] X.env).map (·.2) = [assign tg X.env] := by rfl) : PS X (.Assign [tg] e pos) (rdS X.K B W (sAsg m g)) := PS.imp (ps_asg he hg hs hw h1) fun D σ H h => impAsg h
theorem s_set {i : Nat} {x : Str} {e : Expr} {pos pos' : Pos} {m : ME} (hN : X.N.Nodup) (hi : X.N[i]? = some x) (hx : Loc X.env.scope x) (he : PE X e (rdE X.K B W m)) (hio : ioFree B i := by first | (intro p hp; cases hp; done) | (intro p hp; simp only [List.mem_cons, List.not_mem_nil, or_false] at hp; rcases hp with rfl | rfl <;> simp) | (intro p hp; simp only [List.mem_cons, List.not_mem_nil, or_false] at hp; subst hp; simp)) (hs : swapsWith e (some (.Name x pos')) pos.line X.env = pure false := by rfl)
    (hf : X.fn x = true ∨ X.env.scope.names.lookup x = some .local := by first | exact .inl rfl | exact .inr rfl | assumption) : PS X (.Assign [.Name x pos'] e pos) (rdS X.K B W (sAsg m (gN i))) := PS.imp (ps_set hN hi hx he hs hf) fun D σ H ⟨F, τ, vs, ds, s, p⟩ =>
  ⟨F, τ, vs, ds, s, post_imp (post_s (σ := σ) p) (fun d τ1 q v F1 H1 s1 => q _ F1 H1 (s1.put' hio)) fun _ _ q => q⟩

/-! ### raise, try -/
structure Ec (K : PySem.W.Frag) (mg : Str → Option Value) (ca : Str → Addr) (x : Str) : Prop where
  g : mg x = some (.ref (ca x))
  k : PySem.W.keepIn K (.ref (ca x)) = true
  q : PySem.W.excIn K (ca x) [.type "ValueError", .type "Exception", .type "BaseException", .type "object"] "ValueError.__new__" = true
  b : PySem.W.subIn K (.ref (ca x)) (.type "BaseException") = some true
  t : PySem.W.typeIn K (.ref (ca x)) = some (.type "type")
def sRaise (x : Str) : MS := fun τ => .ex x τ
theorem s_raise {x m : Str} {j} {p p2 pos1 pos : Pos} (c : XOk X W) (E : Ec X.K X.mg B.ca x) (hg : Gl X x) (hdb : (x == ("__debug__" : Str)) = false := by decide) : PS X (.Raise (some (.Call (.Name x p) [.Constant (.str m) j p2] [] pos1)) none pos) (rdS X.K B W (sRaise x)) :=
  PS.imp (ps_raise c.calm c.tk (pmk_own PySem.F.excBase_ValueError E.q E.g E.k (raises_own E.b E.t) hg hdb)) fun D σ H ⟨F, τ, vs, ds, s, p⟩ => p σ F H s
def noEx (r : SR) : SR := match r with
  | .ex _ _ => .bad
  | r => r
def sTry (sub : Str → Option Bool) (b su : MS) : MS := fun τ => match b τ with
  | .ex c τ' => (match sub c with
    | some true => noEx (su τ')
    | some false => .ex c τ'
    | none => .bad)
  | .nx τ' => .nx τ'
  | .rt d τ' => .rt d τ'
  | .bk τ' => .bk τ'
  | .ct τ' => .ct τ'
  | .bad => .bad
theorem s_try {x : Str} {cv : Value} {body suite : List Stmt} {b₀ : Stmt} {np pos pos' : Pos} {b su : MS} (c : XOk X W) (sub : Str → Option Bool) (hn : Names X x cv) (hsub : ∀ y t, sub y = some t → PySem.W.exmOne X.K (.ref (B.ca y)) cv = some t) (hs : X.stack = X.env :: X.outer) (hf : X.env.frame = some X.env.locals)
    (hb : ∀ (W' : WX) (pn : List (Addr × Obj)) (xe : Value → Shared → Prop), XOk (X.tr pn xe) W' → PSs (X.tr pn xe) body (rdS X.K B W' b))
    (hsu : ∀ (a : Addr) (oe : Obj) (cls : Value) (d : Option Addr) (pn : List (Addr × Obj)), PSs (X.suite a ((a, oe) :: pn)) (b₀ :: suite) (rdS X.K B W0 su)) :
    PS X (.Try body [.ExceptHandler (some (.Name x np)) none (b₀ :: suite) pos'] [] [] pos) (rdS X.K B W (sTry sub b su)) :=
  PS.imp (ps_try_only (tb := fun W' => rdS X.K B W' b) (ts := fun _ _ _ => rdS X.K B W0 su) hs hf hn c.tk (fun W' pn xe tk hp => hb W' pn xe ⟨tk, hp, c.calm⟩) fun a oe cls d pn _ _ => hsu a oe cls d pn) fun D σ H ⟨F, τ, vs, ds, s, p⟩ => by
    refine ⟨F, τ, vs, ds, s, ?_⟩
    unfold sTry at p
    cases e : b τ with
    | ex y τ' =>
      rw [e] at p
      intro σ' F' H' s'
      cases es : sub y with
      | none => simp only [es] at p; exact p.elim
      | some t =>
        simp only [es] at p
        refine ⟨t, hsub y t es, fun ht a ha => ?_, fun ht => ?_⟩
        · subst ht
          refine ⟨F', τ', vs, ds, s', ?_⟩
          cases e2 : su τ' with
          | ex y2 τ2 => simp only [e2] at p; exact False.elim p
          | _ => simp only [e2] at p; exact p
        · subst ht; exact p σ' F' H' s'
    | _ => rw [e] at p; exact p

/-! ### what is walked -/
theorem sqOf {K : PySem.W.Frag} {H : Hp} {a : Addr} {xs : List V} (h : H a = some (.lst xs)) : SqL K H a xs := .inl (.inl h)
structure ItOk (K : PySem.W.Frag) (B : Bx) (J : It) (items : List D) (tv : List V) (td : List D) : Prop where
  go : ∀ i F H σ τ, StT K B F H σ τ tv td → i < items.length → J.go i H
  st : ∀ F H σ τ, StT K B F H σ τ tv td → J.stop items.length H
  y : ∀ i d F H σ τ x H' us es, us.length = es.length → items[i]? = some d → StT K B F H σ τ (us ++ tv) (es ++ td) → J.yld i H x H' → ∃ F', StT K B F' H' σ τ (x :: (us ++ tv)) (d :: (es ++ td))
def rdI (K : PySem.W.Frag) (B : Bx) (W : WX) (m : MA) : TI := fun σ H R => ∃ F τ vs ds, StT K B F H σ τ vs ds ∧ post (fun items τ1 => ∀ J us es F' H', us.length = es.length → StT K B F' H' σ τ1 (us ++ vs) (es ++ ds) → ItOk K B J items (us ++ vs) (es ++ ds) → R J H') (exW K B W σ vs ds) (m τ)
theorem PI.imp {tg it : Expr} {t t' : TI} (h : PI X tg it t) (k : ∀ σ H R, t' σ H R → t σ H R) : PI X tg it t' := ⟨fun p s σ H R I q => h.run p s σ H R I (k _ _ _ q)⟩
def iL (m : ME) : MA := fun τ => (m τ).bind fun d τ1 => match freeze d with
  | .lst _ es => .ok es τ1
  | _ => .bad
theorem freeze_fz : ∀ d : D, isFz (freeze d) = true
  | .lst true _ => rfl | .lst false _ => rfl | .obj true _ _ _ => rfl | .obj false _ _ _ => rfl
  | .non => rfl | .bl _ => rfl | .int _ => rfl | .str _ => rfl | .ty _ => rfl | .tup _ => rfl | .cst _ => rfl
theorem StT.freeze1 {K : PySem.W.Frag} {F H : Hp} {σ : L2.St} {τ : Env} {vs : List V} {ds : List D} {v : V} {d : D} (s : StT K B F H σ τ (v :: vs) (d :: ds)) : ∃ F', StT K B F' H σ τ (v :: vs) (Bn.freeze d :: ds) := by
  obtain ⟨F2, sm, ⟨_, _, e2, r, _⟩, s2⟩ := StT.freeze (us := [v]) (es := [d]) s rfl
  cases e2
  exact ⟨F2, s2.push r⟩
theorem itOk_list {K : PySem.W.Frag} {a : Addr} {es : List D} {vs : List V} {ds : List D} : ItOk K B (Itl K a) es (.ref a :: vs) (.lst false es :: ds) := by
  have look : ∀ {F H σ τ}, StT K B F H σ τ (.ref a :: vs) (.lst false es :: ds) → ∃ us, SqL K H a us ∧ RepL K B.ca F es us := fun {F H σ τ} s => by
    obtain ⟨a', us, e, h1, h2⟩ := s.topF rfl
    cases e
    exact ⟨us, sqOf (s.same _ _ h1), h2⟩
  refine ⟨fun i F H σ τ s hi => ?_, fun F H σ τ s => ?_, fun i d F H σ τ x H' us' es' hl hd s y => ?_⟩
  · obtain ⟨us, h1, h2⟩ := look s
    exact ⟨us, us[i]'(by rw [h2.length]; exact hi), h1, by simp [h2.length, hi]⟩
  · obtain ⟨us, h1, h2⟩ := look s
    exact ⟨us, h1, by rw [h2.length]; exact Nat.le_refl _⟩
  · obtain ⟨rfl, y⟩ := y
    obtain ⟨us, h1, h2⟩ := look (s.pops hl)
    obtain ⟨v, e, r⟩ := h2.get hd
    rw [y us h1] at e; cases e
    exact ⟨F, s.push r⟩
theorem itOk_tup {K : PySem.W.Frag} {a : Addr} {es : List D} {vs : List V} {ds : List D} : ItOk K B (Itt K a) es (.ref a :: vs) (.tup es :: ds) := by
  have look : ∀ {F H σ τ}, StT K B F H σ τ (.ref a :: vs) (.tup es :: ds) → ∃ us, SqT K H a us ∧ RepL K B.ca F es us := fun {F H σ τ} s => by
    obtain ⟨a', us, e, h1, h2⟩ := s.topF rfl
    cases e
    exact ⟨us, sqT_same s.same h1, h2⟩
  refine ⟨fun i F H σ τ s hi => ?_, fun F H σ τ s => ?_, fun i d F H σ τ x H' us' es' hl hd s y => ?_⟩
  · obtain ⟨us, h1, h2⟩ := look s
    exact ⟨us, us[i]'(by rw [h2.length]; exact hi), h1, by simp [h2.length, hi]⟩
  · obtain ⟨us, h1, h2⟩ := look s
    exact ⟨us, h1, by rw [h2.length]; exact Nat.le_refl _⟩
  · obtain ⟨rfl, y⟩ := y
    obtain ⟨us, h1, h2⟩ := look (s.pops hl)
    obtain ⟨v, e, r⟩ := h2.get hd
    rw [y us h1] at e; cases e
    exact ⟨F, s.push r⟩
def enumD : Nat → List D → List D
  | _, [] => []
  | i, d :: ds => .tup [.int (i : Nat), d] :: enumD (i + 1) ds
theorem enumD_len : ∀ (i : Nat) (ds : List D), (enumD i ds).length = ds.length
  | _, [] => rfl
  | i, d :: ds => by show (enumD (i + 1) ds).length + 1 = ds.length + 1; rw [enumD_len]
theorem enumD_get : ∀ (i j : Nat) (ds : List D), (enumD i ds)[j]? = ds[j]?.map fun d => .tup [.int ((i + j : Nat) : Int), d]
  | _, j, [] => by simp [enumD]
  | i, 0, d :: ds => by simp [enumD]
  | i, j + 1, d :: ds => by
    show (enumD (i + 1) ds)[j]? = _
    rw [enumD_get (i + 1) j ds]
    simp [Nat.add_assoc, Nat.add_comm 1 j]
theorem itOk_enum {K : PySem.W.Frag} {a : Addr} {es : List D} {vs : List V} {ds : List D} : ItOk K B (Ite K a) (enumD 0 es) (.ref a :: vs) (.lst false es :: ds) := by
  have look : ∀ {F H σ τ}, StT K B F H σ τ (.ref a :: vs) (.lst false es :: ds) → ∃ us, SqL K H a us ∧ RepL K B.ca F es us := fun {F H σ τ} s => by
    obtain ⟨a', us, e, h1, h2⟩ := s.topF rfl
    cases e
    exact ⟨us, sqOf (s.same _ _ h1), h2⟩
  refine ⟨fun i F H σ τ s hi => ?_, fun F H σ τ s => ?_, fun i d F H σ τ x H' us' es' hl hd s y => ?_⟩
  · obtain ⟨us, h1, h2⟩ := look s
    rw [enumD_len] at hi
    exact ⟨us, us[i]'(by rw [h2.length]; exact hi), h1, by simp [h2.length, hi]⟩
  · obtain ⟨us, h1, h2⟩ := look s
    exact ⟨us, h1, by rw [enumD_len, h2.length]; exact Nat.le_refl _⟩
  · obtain ⟨T, x', rfl, hT, rfl, y⟩ := y
    obtain ⟨us, h1, h2⟩ := look (s.pops hl)
    rw [enumD_get] at hd
    cases e : es[i]? with
    | none => rw [e] at hd; cases hd
    | some d' =>
      rw [e] at hd
      obtain ⟨v, ev, r⟩ := h2.get e
      rw [y us h1] at ev; cases ev
      have hd' : D.tup [.int ((0 + i : Nat) : Int), d'] = d := Option.some.inj hd
      subst hd'
      rw [Nat.zero_add]
      exact ⟨_, s.newTup hT ⟨.int (i : Nat), [x'], rfl, rfl, x', [], rfl, r, rfl⟩⟩
def zipD : List D → List D → List D
  | x :: xs, y :: ys => .tup [x, y] :: zipD xs ys
  | _, _ => []
theorem zipD_len : ∀ xs ys : List D, (zipD xs ys).length = min xs.length ys.length
  | [], ys => by simp [zipD]
  | x :: xs, [] => by simp [zipD]
  | x :: xs, y :: ys => by
    show (zipD xs ys).length + 1 = min (xs.length + 1) (ys.length + 1)
    rw [zipD_len]; omega
theorem zipD_get : ∀ (i : Nat) (xs ys : List D) (d : D), (zipD xs ys)[i]? = some d → ∃ x y, xs[i]? = some x ∧ ys[i]? = some y ∧ d = .tup [x, y]
  | _, [], ys, d, h => by simp [zipD] at h
  | _, x :: xs, [], d, h => by simp [zipD] at h
  | 0, x :: xs, y :: ys, d, h => ⟨x, y, rfl, rfl, (Option.some.inj h).symm⟩
  | i + 1, x :: xs, y :: ys, d, h => by simpa using zipD_get i xs ys d h
theorem itOk_zip {K : PySem.W.Frag} {a b : Addr} {es fs : List D} {vs : List V} {ds : List D} : ItOk K B (Itz K a b) (zipD es fs) (.ref b :: .ref a :: vs) (.lst false fs :: .lst false es :: ds) := by
  have look : ∀ {F H σ τ}, StT K B F H σ τ (.ref b :: .ref a :: vs) (.lst false fs :: .lst false es :: ds) → ∃ us ws, SqL K H a us ∧ RepL K B.ca F es us ∧ SqL K H b ws ∧ RepL K B.ca F fs ws := fun {F H σ τ} s => by
    obtain ⟨a', us, e, h1, h2⟩ := s.topF rfl
    obtain ⟨a'', ws, e', h1', h2'⟩ := s.pop.topF rfl
    cases e; cases e'
    exact ⟨ws, us, sqOf (s.same _ _ h1'), h2', sqOf (s.same _ _ h1), h2⟩
  refine ⟨fun i F H σ τ s hi => ?_, fun F H σ τ s => ?_, fun i d F H σ τ x H' us' es' hl hd s y => ?_⟩
  · obtain ⟨us, ws, h1, h2, h3, h4⟩ := look s
    rw [zipD_len] at hi
    have i1 : i < us.length := by rw [h2.length]; omega
    have i2 : i < ws.length := by rw [h4.length]; omega
    exact ⟨us, ws, us[i], ws[i], h1, h3, by simp [i1], by simp [i2]⟩
  · obtain ⟨us, ws, h1, h2, h3, h4⟩ := look s
    refine ⟨us, ws, h1, h3, ?_⟩
    rw [zipD_len, h2.length, h4.length]; omega
  · obtain ⟨T, x', y', rfl, hT, rfl, y1, y2⟩ := y
    obtain ⟨us, ws, h1, h2, h3, h4⟩ := look (s.pops hl)
    obtain ⟨d1, d2, g1, g2, rfl⟩ := zipD_get i es fs d hd
    obtain ⟨v1, k1, r1⟩ := h2.get g1
    obtain ⟨v2, k2, r2⟩ := h4.get g2
    rw [y1 us h1] at k1; cases k1
    rw [y2 ws h3] at k2; cases k2
    exact ⟨_, s.newTup hT ⟨x', [y'], rfl, r1, y', [], rfl, r2, rfl⟩⟩
theorem itOk_rev {K : PySem.W.Frag} {a : Addr} {es : List D} {vs : List V} {ds : List D} {n : Nat} (hn : n = es.length) : ItOk K B (Itv K a n) es.reverse (.ref a :: vs) (.lst false es :: ds) := by
  subst hn
  have look : ∀ {F H σ τ}, StT K B F H σ τ (.ref a :: vs) (.lst false es :: ds) → ∃ us, SqL K H a us ∧ RepL K B.ca F es us := fun {F H σ τ} s => by
    obtain ⟨a', us, e, h1, h2⟩ := s.topF rfl
    cases e
    exact ⟨us, sqOf (s.same _ _ h1), h2⟩
  refine ⟨fun i F H σ τ s hi => ?_, fun F H σ τ s => ?_, fun i d F H σ τ x H' us' es' hl hd s y => ?_⟩
  · obtain ⟨us, h1, h2⟩ := look s
    rw [List.length_reverse] at hi
    have i2 : es.length - 1 - i < us.length := by rw [h2.length]; omega
    exact ⟨hi, us, us[es.length - 1 - i], h1, by simp [i2]⟩
  · show es.length ≤ es.reverse.length
    rw [List.length_reverse]; exact Nat.le_refl _
  · obtain ⟨rfl, y⟩ := y
    obtain ⟨us, h1, h2⟩ := look (s.pops hl)
    have hi : i < es.length := by
      have := (List.getElem?_eq_some_iff.mp hd).1
      rwa [List.length_reverse] at this
    rw [List.getElem?_reverse hi] at hd
    obtain ⟨v, e, r⟩ := h2.get hd
    rw [y us h1] at e; cases e
    exact ⟨F, s.push r⟩
def rangeD (lo : Int) (n : Nat) : List D := (List.range n).map fun k => D.int (lo + (k : Nat))
theorem itOk_range {K : PySem.W.Frag} {lo : Int} {n : Nat} {vs : List V} {ds : List D} : ItOk K B (Itr lo n) (rangeD lo n) vs ds := by
  refine ⟨fun i F H σ τ s hi => ?_, fun F H σ τ s => ?_, fun i d F H σ τ x H' us' es' hl hd s y => ?_⟩
  · show i < n; simpa [rangeD] using hi
  · show n ≤ (rangeD lo n).length; simp [rangeD]
  · obtain ⟨rfl, rfl⟩ := y
    have hi : i < n := by simpa [rangeD] using (List.getElem?_eq_some_iff.mp hd).1
    have e : d = .int (lo + (i : Nat)) := by
      unfold rangeD at hd
      rw [List.getElem?_map, List.getElem?_range hi] at hd
      exact (Option.some.inj hd).symm
    subst e
    exact ⟨F, s.push (d := .int _) rfl⟩
def strD (s : Str) : List D := s.cps.toList.map fun c => D.str ⟨#[c]⟩
theorem itOk_str {K : PySem.W.Frag} {z : Str} {vs : List V} {ds : List D} : ItOk K B (Its z) (strD z) vs ds := by
  refine ⟨fun i F H σ τ s hi => ?_, fun F H σ τ s => ?_, fun i d F H σ τ x H' us' es' hl hd s y => ?_⟩
  · show i < z.cps.size; simpa [strD] using hi
  · show z.cps.size ≤ (strD z).length; simp [strD]
  · obtain ⟨rfl, c, hc, rfl⟩ := y
    have e : d = .str ⟨#[c]⟩ := by
      unfold strD at hd
      rw [List.getElem?_map, Array.getElem?_toList, hc] at hd
      exact (Option.some.inj hd).symm
    subst e
    exact ⟨F, s.push (d := .str _) rfl⟩

theorem i_list {tg l : Expr} {m : ME} (hl : PE X l (rdE X.K B W m)) : PI X tg l (rdI X.K B W (iL m)) := PI.imp (pi_list hl) fun σ H R ⟨F, τ, vs, ds, s, p⟩ => by
  refine ⟨F, τ, vs, ds, s, post_imp (post_bind p) (fun d τ1 q v F1 H1 s1 => ?_) fun _ _ q => q⟩
  obtain ⟨F2, s2⟩ := s1.freeze1
  have hz := freeze_fz d
  cases e : freeze d with
  | lst m es =>
    cases m with
    | true => rw [e] at hz; cases hz
    | false =>
      simp only [e] at q
      rw [e] at s2
      obtain ⟨a, us, ev, h1, h2⟩ := s2.topF rfl
      subst ev
      exact ⟨a, rfl, ⟨us, sqOf (s2.same _ _ h1)⟩, q (Itl X.K a) [.ref a] [.lst false es] F2 H1 rfl s2 itOk_list⟩
  | _ => simp only [e] at q; exact False.elim q
def iT (m : ME) : MA := fun τ => (m τ).bind fun d τ1 => match d with
  | .tup es => .ok es τ1
  | _ => .bad
theorem i_tup {tg l : Expr} {m : ME} (hl : PE X l (rdE X.K B W m)) : PI X tg l (rdI X.K B W (iT m)) := PI.imp (pi_tup hl) fun σ H R ⟨F, τ, vs, ds, s, p⟩ => by
  refine ⟨F, τ, vs, ds, s, post_imp (post_bind p) (fun d τ1 q v F1 H1 s1 => ?_) fun _ _ q => q⟩
  cases d with
  | tup es =>
    obtain ⟨a, us, ev, h1, h2⟩ := s1.topF rfl
    subst ev
    exact ⟨a, rfl, ⟨us, sqT_same s1.same h1⟩, q (Itt X.K a) [.ref a] [.tup es] F1 H1 rfl s1 itOk_tup⟩
  | _ => exact False.elim q
def iS (m : ME) : MA := fun τ => (m τ).bind fun d τ1 => match d with
  | .str z => .ok (strD z) τ1
  | _ => .bad
theorem i_str {tg l : Expr} {m : ME} (hl : PE X l (rdE X.K B W m)) : PI X tg l (rdI X.K B W (iS m)) := PI.imp (pi_str hl) fun σ H R ⟨F, τ, vs, ds, s, p⟩ => by
  refine ⟨F, τ, vs, ds, s, post_imp (post_bind p) (fun d τ1 q v F1 H1 s1 => ?_) fun _ _ q => q⟩
  cases d with
  | str z => exact ⟨z, s1.topF rfl, q (Its z) [] [] F1 H1 rfl s1.pop itOk_str⟩
  | _ => exact False.elim q
def iR1 (m : MA) : MA := fun τ => (m τ).bind fun ds τ1 => match ds with
  | [.int j] => if -(2 ^ 62) ≤ j ∧ j < 2 ^ 62 then .ok (rangeD 0 j.toNat) τ1 else .bad
  | _ => .bad
def iR2 (m : MA) : MA := fun τ => (m τ).bind fun ds τ1 => match ds with
  | [.int i, .int j] => if -(2 ^ 62) ≤ i ∧ i < 2 ^ 62 ∧ -(2 ^ 62) ≤ j ∧ j < 2 ^ 62 then .ok (rangeD i (j - i).toNat) τ1 else .bad
  | _ => .bad
theorem i_range1 {tg a : Expr} {p pos : Pos} {m : MA} (hg : Gl X "range") (hm : X.mg "range" = none) (ha : PA X [a] (rdA X.K B W m)) (hs : starEach [a] X.env = [(false, eval a X.env)] := by rfl) : PI X tg (.Call (.Name "range" p) [a] [] pos) (rdI X.K B W (iR1 m)) := PI.imp (pi_range1 hg hm ha hs) fun σ H R ⟨F, τ, vs, ds, s, p⟩ => by
  refine ⟨F, τ, vs, ds, s, post_imp (post_bind p) (fun es τ1 q us F1 H1 hl s1 => ?_) fun _ _ q => q⟩
  have g := s1.pops hl
  match es, q, s1, hl with
  | [.int j], q, s1, hl =>
    match us, s1, hl with
    | [v], s1, _ =>
      cases (show v = .int j from s1.topF rfl)
      by_cases z : -(2 ^ 62) ≤ j ∧ j < 2 ^ 62
      · simp only [z, and_self, if_true] at q
        exact ⟨j, rfl, z.1, z.2, q (Itr 0 j.toNat) [] [] F1 H1 rfl g itOk_range⟩
      · simp only [z, if_false] at q; exact False.elim q
theorem i_range2 {tg a b : Expr} {p pos : Pos} {m : MA} (hg : Gl X "range") (hm : X.mg "range" = none) (ha : PA X [a, b] (rdA X.K B W m)) (hs : starEach [a, b] X.env = [(false, eval a X.env), (false, eval b X.env)] := by rfl) (hs2 : starEach [b] X.env = [(false, eval b X.env)] := by rfl) :
    PI X tg (.Call (.Name "range" p) [a, b] [] pos) (rdI X.K B W (iR2 m)) := PI.imp (pi_range2 hg hm ha hs hs2) fun σ H R ⟨F, τ, vs, ds, s, p⟩ => by
  refine ⟨F, τ, vs, ds, s, post_imp (post_bind p) (fun es τ1 q us F1 H1 hl s1 => ?_) fun _ _ q => q⟩
  have g := s1.pops hl
  match es, q, s1, hl with
  | [.int i, .int j], q, s1, hl =>
    match us, s1, hl with
    | [u, v], s1, _ =>
      cases (show u = .int i from s1.topF rfl)
      cases (show v = .int j from s1.pop.topF rfl)
      by_cases z : -(2 ^ 62) ≤ i ∧ i < 2 ^ 62 ∧ -(2 ^ 62) ≤ j ∧ j < 2 ^ 62
      · simp only [z, and_self, if_true] at q
        exact ⟨i, j, rfl, z, q (Itr i (j - i).toNat) [] [] F1 H1 rfl g itOk_range⟩
      · simp only [z, if_false] at q; exact False.elim q
def iE (m : MA) : MA := fun τ => (m τ).bind fun ds τ1 => match freezeL ds with
  | [.lst _ es] => .ok (enumD 0 es) τ1
  | _ => .bad
def iV (m : MA) : MA := fun τ => (m τ).bind fun ds τ1 => match freezeL ds with
  | [.lst _ es] => .ok es.reverse τ1
  | _ => .bad
def iZ (m : MA) : MA := fun τ => (m τ).bind fun ds τ1 => match freezeL ds with
  | [.lst _ es, .lst _ fs] => .ok (zipD es fs) τ1
  | _ => .bad
theorem StT.pushL {K : PySem.W.Frag} {F H : Hp} {σ : L2.St} {τ : Env} {vs us : List V} {ds es : List D} (s : StT K B F H σ τ vs ds) (h : RepL K B.ca F es us) : StT K B F H σ τ (us ++ vs) (es ++ ds) := by
  obtain ⟨f1, f2, A, b, w, io⟩ := s
  have b2 := (h.os (H := H)).append b
  have e3 : (fun b => 0 + f2 b) = f2 := funext fun b => by omega
  rw [e3] at b2
  exact ⟨f1, f2, A, b2, w, io⟩
theorem i_enum {e : Expr} {p pos tpos : Pos} {elts : List Expr} {kk : Nat} {m : MA} (hg : Gl X "enumerate") (hm : X.mg "enumerate" = none) (ha : PA X [e] (rdA X.K B W m)) (hs : starEach [e] X.env = [(false, eval e X.env)] := by rfl) :
    PI X (.Tuple elts kk tpos) (.Call (.Name "enumerate" p) [e] [] pos) (rdI X.K B W (iE m)) := PI.imp (pi_enum hg hm ha hs) fun σ H R ⟨F, τ, vs, ds, s, p⟩ => by
  refine ⟨F, τ, vs, ds, s, post_imp (post_bind p) (fun es τ1 q us F1 H1 hl s1 => ?_) fun _ _ q => q⟩
  obtain ⟨F2, sm, rl, s2⟩ := s1.freeze hl
  match h : freezeL es, q, rl with
  | [.lst b xs], q, rl =>
    obtain ⟨v, r, rfl, r1, r2⟩ := rl
    cases (show r = [] from r2)
    cases b with
    | true => exact r1.elim
    | false =>
      have s3 := s2.push r1
      obtain ⟨a, ws, rfl, h1, h2⟩ := r1
      exact ⟨a, ws, rfl, sqOf (s2.same _ _ h1), q (Ite X.K a) [.ref a] [.lst false xs] F2 H1 rfl s3 itOk_enum⟩
theorem i_rev {tg e : Expr} {p pos : Pos} {m : MA} (hg : Gl X "reversed") (hm : X.mg "reversed" = none) (ha : PA X [e] (rdA X.K B W m)) (hs : starEach [e] X.env = [(false, eval e X.env)] := by rfl) :
    PI X tg (.Call (.Name "reversed" p) [e] [] pos) (rdI X.K B W (iV m)) := PI.imp (pi_reversed hg hm ha hs) fun σ H R ⟨F, τ, vs, ds, s, p⟩ => by
  refine ⟨F, τ, vs, ds, s, post_imp (post_bind p) (fun es τ1 q us F1 H1 hl s1 => ?_) fun _ _ q => q⟩
  obtain ⟨F2, sm, rl, s2⟩ := s1.freeze hl
  match h : freezeL es, q, rl with
  | [.lst b xs], q, rl =>
    obtain ⟨v, r, rfl, r1, r2⟩ := rl
    cases (show r = [] from r2)
    cases b with
    | true => exact r1.elim
    | false =>
      have s3 := s2.push r1
      obtain ⟨a, ws, rfl, h1, h2⟩ := r1
      exact ⟨a, ws, rfl, sqOf (s2.same _ _ h1), q (Itv X.K a ws.length) [.ref a] [.lst false xs] F2 H1 rfl s3 (itOk_rev h2.length)⟩
theorem i_zip {e e2 : Expr} {p pos tpos : Pos} {elts : List Expr} {kk : Nat} {m : MA} (hg : Gl X "zip") (hm : X.mg "zip" = none) (ha : PA X [e, e2] (rdA X.K B W m))
    (hs : starEach [e, e2] X.env = (false, eval e X.env) :: starEach [e2] X.env := by rfl) (hpl : (backTo pos (starEach [e2] X.env)).any (·.1) = false := by rfl) :
    PI X (.Tuple elts kk tpos) (.Call (.Name "zip" p) [e, e2] [] pos) (rdI X.K B W (iZ m)) := PI.imp (pi_zip hg hm ha hs hpl) fun σ H R ⟨F, τ, vs, ds, s, p⟩ => by
  refine ⟨F, τ, vs, ds, s, post_imp (post_bind p) (fun es τ1 q us F1 H1 hl s1 => ?_) fun _ _ q => q⟩
  obtain ⟨F2, sm, rl, s2⟩ := s1.freeze hl
  match h : freezeL es, q, rl with
  | [.lst b xs, .lst b2 ys], q, rl =>
    obtain ⟨v, r, rfl, r1, v2, r', rfl, r2, r3⟩ := rl
    cases (show r' = [] from r3)
    cases b with
    | true => exact r1.elim
    | false =>
      cases b2 with
      | true => exact r2.elim
      | false =>
        have s3 := (s2.push r1).push r2
        obtain ⟨a, ws, rfl, h1, h2⟩ := r1
        obtain ⟨a', ws', rfl, h1', h2'⟩ := r2
        exact ⟨a, a', ws, ws', rfl, sqOf (s2.same _ _ h1), sqOf (s2.same _ _ h1'), q (Itz X.K a a') [.ref a', .ref a] [.lst false ys, .lst false xs] F2 H1 rfl s3 itOk_zip⟩
end
end Bn

/-! Loops, comprehensions; a def by its function. -/
namespace Bn
open PySem PySem.Spec PyProof.Rows L2

/-! ### for, while -/
def forL (g : D → Env → Option Env) (b : MS) : List D → Env → SR
  | [], τ => .nx τ
  | d :: r, τ => match g d τ with
    | none => .bad
    | some τ1 => match b τ1 with
      | .nx τ2 => forL g b r τ2
      | .ct τ2 => forL g b r τ2
      | .bk τ2 => .nx τ2
      | .rt d τ2 => .rt d τ2
      | .ex c τ2 => .ex c τ2
      | .bad => .bad
def sFor (m : MA) (g : D → Env → Option Env) (b : MS) : MS := fun τ => (m τ).s fun items τ1 => forL g b items τ1
def whileM (c : MT) (b : MS) : Nat → Env → SR
  | 0, _ => .bad
  | n + 1, τ => match c τ with
    | .ok true τ1 => (match b τ1 with
      | .nx τ2 => whileM c b n τ2
      | .ct τ2 => whileM c b n τ2
      | .bk τ2 => .nx τ2
      | .rt d τ2 => .rt d τ2
      | .ex e τ2 => .ex e τ2
      | .bad => .bad)
    | .ok false τ1 => .nx τ1
    | .ex e τ1 => .ex e τ1
    | .bad => .bad
def sWhile (fuel : Env → Nat) (c : MT) (b : MS) : MS := fun τ => whileM c b (fuel τ) τ
section
variable {X : Cx} {B : Bx} {W : WX}
theorem postS_pops {K : PySem.W.Frag} {us vs : List V} {es ds : List D} {D' : Ends} {r : SR} (hl : us.length = es.length) (h : postS K B W vs ds D' r) : postS K B W (us ++ vs) (es ++ ds) D' r := by
  cases r with
  | nx τ => exact fun σ F H s => h σ F H (s.pops hl)
  | rt d τ => exact fun v σ F H s => h v σ F H (StT.pops (us := us) (es := es) (by
      obtain ⟨f1, f2, A, ⟨v', r', g1, g2, e, b1, b2, q⟩, w, io⟩ := s
      cases e
      obtain ⟨g3, g4, c1, c2, q2⟩ := b2.split' hl
      exact ⟨f1, f2, A, c1.append (us := v :: vs) (es := d :: ds) (g := fun b => g1 b + g4 b) ⟨v, vs, g1, g4, rfl, b1, c2, fun _ => rfl⟩ |> fun z => by
        have e : (fun b => g3 b + (g1 b + g4 b)) = f2 := funext fun b => by rw [q, q2]; omega
        rw [e] at z; exact z, w, io⟩) hl)
  | bk τ => exact fun σ F H s => h σ F H (s.pops hl)
  | ct τ => exact fun σ F H s => h σ F H (s.pops hl)
  | ex c τ => exact fun σ F H s => h σ F H (s.pops hl)
  | bad => exact h
theorem for_core {J : It} {items : List D} {tv : List V} {td : List D} {g : D → Env → Option Env} {sl : List Nat} {b : MS} {K : PySem.W.Frag} {σ : L2.St} {H F : Hp} {τ : Env} {D' : Ends} (ok : ItOk K B J items tv td) (s : StT K B F H σ τ tv td) (p : postS K B W tv td D' (forL g b items τ)) :
    ∃ W' : Nat → Nat → L2.St → Hp → Prop, (∃ m, W' 0 m σ H) ∧ ∀ i m σ H, W' i m σ H → (J.stop i H ∧ D'.nx σ H) ∨ (J.go i H ∧ ∃ N : L2.St → Hp → Prop, (∀ σ' H', N σ' H' → ∃ m', m' < m ∧ W' (i + 1) m' σ' H') ∧
      ∀ x H', J.yld i H x H' → rdG K B sl g x σ H' fun σ2 H2 => rdS K B W b { D' with nx := N, ct := N, bk := D'.nx } σ2 H2) := by
  refine ⟨fun i m σ H => m = items.length - i ∧ i ≤ items.length ∧ ∃ F τ, StT K B F H σ τ tv td ∧ postS K B W tv td D' (forL g b (items.drop i) τ), ⟨_, rfl, Nat.zero_le _, F, τ, s, p⟩, ?_⟩
  rintro i m σ H ⟨rfl, hi, F, τ, s, p⟩
  by_cases h : i < items.length
  · refine .inr ⟨ok.go i F H σ τ s h, fun σ' H' => ∃ F τ, StT K B F H' σ' τ tv td ∧ postS K B W tv td D' (forL g b (items.drop (i + 1)) τ), fun σ' H' ⟨F', τ', s', p'⟩ => ⟨items.length - (i + 1), by omega, rfl, h, F', τ', s', p'⟩, fun x H' y => ?_⟩
    have e : items[i]? = some items[i] := by simp [h]
    obtain ⟨F', s'⟩ := ok.y i _ F H σ τ x H' [] [] rfl e s y
    rw [List.drop_eq_getElem_cons h] at p
    unfold forL at p
    cases eg : g items[i] τ with
    | none => rw [eg] at p; exact p.elim
    | some τ1 =>
      rw [eg] at p
      refine ⟨F', τ, tv, td, _, s', τ1, eg, fun σ2 F2 H2 s2 _ _ => ⟨F2, τ1, tv, td, s2, ?_⟩⟩
      cases eb : b τ1 with
      | nx τ2 => simp only [eb] at p; exact fun σ3 F3 H3 s3 => ⟨F3, τ2, s3, p⟩
      | ct τ2 => simp only [eb] at p; exact fun σ3 F3 H3 s3 => ⟨F3, τ2, s3, p⟩
      | bk τ2 => simp only [eb] at p; exact p
      | rt d τ2 => simp only [eb] at p; exact p
      | ex c τ2 => simp only [eb] at p; exact p
      | bad => simp only [eb] at p; exact p
  · have e : i = items.length := by omega
    subst e
    rw [List.drop_length] at p
    exact .inl ⟨ok.st F H σ τ s, p σ F H s⟩
theorem s_for {tg it : Expr} {body : List Stmt} {pos : Pos} {m : MA} {sl : List Nat} {g : D → Env → Option Env} {b : MS} (c : XOk X W) (hi : PI X tg it (rdI X.K B W m)) (hg : PG X tg (rdG X.K B sl g)) (hb : PSs X body (rdS X.K B W b))
    (hs : ∀ x, foldedSetIterable it X.env x = pure x := by intro _; rfl) : PS X (.For tg it body [] pos) (rdS X.K B W (sFor m g b)) := PS.imp (ps_for c.hp c.calm hi hg hb hs) fun D' σ H ⟨F, τ, vs, ds, s, p⟩ =>
  ⟨F, τ, vs, ds, s, post_imp (post_s (σ := σ) p) (fun items τ1 q J us es F' H' hl s' ok => for_core ok s' (postS_pops hl q)) fun _ _ q => q⟩
theorem s_while {c : Expr} {body : List Stmt} {pos : Pos} {t : MT} {b : MS} (k : XOk X W) (fuel : Env → Nat) (hc : PT X c (rdT X.K B W t)) (hb : PSs X body (rdS X.K B W b)) : PS X (.While c body [] pos) (rdS X.K B W (sWhile fuel t b)) := PS.imp (ps_while k.hp hc hb) fun D' σ H ⟨F, τ, vs, ds, s, p⟩ => by
  refine ⟨fun m σ H => ∃ F τ, StT X.K B F H σ τ vs ds ∧ postS X.K B W vs ds D' (whileM t b m τ), ⟨_, F, τ, s, p⟩, ?_⟩
  rintro m σ H ⟨F, τ, s, p⟩
  cases m with
  | zero => exact False.elim p
  | succ m =>
    unfold whileM at p
    refine ⟨F, τ, vs, ds, s, ?_⟩
    cases et : t τ with
    | bad => rw [et] at p; exact p
    | ex e τ1 => rw [et] at p; exact fun F1 H1 s1 => p σ F1 H1 s1
    | ok x τ1 =>
      rw [et] at p
      intro F1 H1 s1
      cases x with
      | false => exact p σ F1 H1 s1
      | true =>
        refine ⟨fun σ' H' => ∃ F τ, StT X.K B F H' σ' τ vs ds ∧ postS X.K B W vs ds D' (whileM t b m τ), fun σ' H' ⟨F', τ', s', p'⟩ => ⟨m, Nat.lt_succ_self m, F', τ', s', p'⟩, F1, τ1, vs, ds, s1, ?_⟩
        cases eb : b τ1 with
        | nx τ2 => simp only [eb] at p; exact fun σ3 F3 H3 s3 => ⟨F3, τ2, s3, p⟩
        | ct τ2 => simp only [eb] at p; exact fun σ3 F3 H3 s3 => ⟨F3, τ2, s3, p⟩
        | bk τ2 => simp only [eb] at p; exact p
        | rt d τ2 => simp only [eb] at p; exact p
        | ex c τ2 => simp only [eb] at p; exact p
        | bad => simp only [eb] at p; exact p

/-! ### list comprehensions -/
def wipeE (τ : Env) : List Nat → Env
  | [] => τ
  | v :: vs => (wipeE τ vs).set v none
def lcL (own : List Nat) (g : D → Env → Option Env) (t : MT) (m : ME) : List D → List D → Env → R (List D)
  | [], acc, τ => .ok acc τ
  | d :: r, acc, τ => match g d τ with
    | none => .bad
    | some τ1 => (t τ1).bind fun b τ2 => if b = true then (m τ2).bind fun e τ3 => if acc.length < 1000000 then lcL own g t m r (acc ++ [e]) (wipeE τ3 own) else .bad else lcL own g t m r acc (wipeE τ2 own)
def eLc (own : List Nat) (it : MA) (g : D → Env → Option Env) (t : MT) (m : ME) : ME := fun τ => (it τ).bind fun items τ1 => match lcL own g t m items [] (wipeE τ1 own) with
  | .ok acc τ2 => .ok (.lst true acc) τ2
  | _ => .bad
theorem Sl.reset {K : PySem.W.Frag} {ca : Str → Addr} {F H : Hp} : ∀ {τ : Env} {σ σ' : L2.St} {f : Ct}, Sl K ca F H τ σ f → σ'.length = σ.length → (∀ (j : Nat) (d : D), τ[j]? = some (some d) → σ'[j]? = σ[j]?) → Sl K ca F H τ σ' f
  | [], σ, σ', f, h, hl, k => by
    obtain ⟨rfl, h2⟩ := h
    exact ⟨List.eq_nil_of_length_eq_zero hl, h2⟩
  | none :: τ, _, σ', f, ⟨x, r, h1, h2⟩, hl, k => by
    subst h1
    cases σ' with
    | nil => cases hl
    | cons y r' => exact ⟨y, r', rfl, h2.reset (by simpa using hl) fun j d hj => by simpa using k (j + 1) d (by simpa using hj)⟩
  | some d :: τ, _, σ', f, ⟨v, r, f1, f2, h1, h2, h3, h4⟩, hl, k => by
    subst h1
    cases σ' with
    | nil => cases hl
    | cons y r' =>
      have e : some y = some (some v) := by simpa using k 0 d (by simp)
      cases e
      exact ⟨v, r', f1, f2, rfl, h2, h3.reset (by simpa using hl) fun j d hj => by simpa using k (j + 1) d (by simpa using hj), h4⟩
theorem wipe_out {σ : L2.St} {j : Nat} : ∀ {own : List Nat}, j ∉ own → (wipe σ own)[j]? = σ[j]?
  | [], _ => rfl
  | v :: vs, h => by
    unfold wipe
    rw [List.getElem?_set_ne (fun e => h (by simp [e]))]
    exact wipe_out fun z => h (List.mem_cons_of_mem _ z)
theorem wipeE_in {τ : Env} {j : Nat} {d : D} : ∀ {own : List Nat}, (wipeE τ own)[j]? = some (some d) → j ∉ own
  | [], _ => by simp
  | v :: vs, h => by
    unfold wipeE at h
    by_cases e : v = j
    · subst e
      by_cases hv : v < (wipeE τ vs).length
      · rw [List.getElem?_set_self hv] at h; cases h
      · rw [List.getElem?_eq_none (by simpa using hv)] at h; cases h
    · rw [List.getElem?_set_ne e] at h
      simp only [List.mem_cons, not_or]
      exact ⟨fun z => e z.symm, wipeE_in h⟩
theorem wipe_in {σ : L2.St} {j : Nat} : ∀ {own : List Nat}, j ∈ own → j < σ.length → (wipe σ own)[j]? = some none
  | [], h, _ => by simp at h
  | v :: vs, h, hl => by
    unfold wipe
    by_cases e : v = j
    · subst e; rw [List.getElem?_set_self (by rw [wipe_length]; exact hl)]
    · rw [List.getElem?_set_ne e]
      exact wipe_in (by rcases List.mem_cons.mp h with z | z; exact absurd z.symm e; exact z) hl
theorem wipe_eq {a b : L2.St} {own : List Nat} (hl : a.length = b.length) (h : ∀ j, j ∉ own → a[j]? = b[j]?) : wipe a own = wipe b own := by
  apply List.ext_getElem?
  intro j
  by_cases e : j ∈ own
  · by_cases hj : j < a.length
    · rw [wipe_in e hj, wipe_in e (by omega)]
    · rw [List.getElem?_eq_none (by rw [wipe_length]; omega), List.getElem?_eq_none (by rw [wipe_length]; omega)]
  · rw [wipe_out e, wipe_out e]; exact h j e
theorem wipe_wipe {σ : L2.St} {own : List Nat} : wipe (wipe σ own) own = wipe σ own := wipe_eq (wipe_length σ own) fun j h => wipe_out h
theorem StT.reset {K : PySem.W.Frag} {F H : Hp} {σ σ' : L2.St} {τ : Env} {vs : List V} {ds : List D} (s : StT K B F H σ τ vs ds) (hl : σ'.length = σ.length) (k : ∀ (j : Nat) (d : D), τ[j]? = some (some d) → σ'[j]? = σ[j]?) (io : IoOk B σ') : StT K B F H σ' τ vs ds := by
  obtain ⟨f1, f2, a, b, w, _⟩ := s
  exact ⟨f1, f2, a.reset hl k, b, w, io⟩
theorem StT.wipeE {K : PySem.W.Frag} {F H : Hp} {σ : L2.St} {τ : Env} {vs : List V} {ds : List D} (s : StT K B F H σ τ vs ds) : ∀ own : List Nat, StT K B F H σ (Bn.wipeE τ own) vs ds
  | [] => s
  | _ :: own => (s.wipeE own).forget
def ioFreeL (B : Bx) (own : List Nat) : Prop := ∀ p ∈ B.io, p.1 ∉ own
theorem StT.wiped {K : PySem.W.Frag} {F H : Hp} {σ : L2.St} {τ : Env} {vs : List V} {ds : List D} {own : List Nat} (s : StT K B F H σ τ vs ds) (hio : ioFreeL B own) : StT K B F H (wipe σ own) (Bn.wipeE τ own) vs ds := by
  have io : IoOk B σ := by obtain ⟨_, _, _, _, _, io⟩ := s; exact io
  exact (s.wipeE own).reset (wipe_length _ _) (fun j d h => wipe_out (wipeE_in h)) fun p hp => by rw [wipe_out (hio p hp)]; exact io p hp
theorem StT.unwiped {K : PySem.W.Frag} {F H : Hp} {σ : L2.St} {τ : Env} {vs : List V} {ds : List D} {own : List Nat} (s : StT K B F H (wipe σ own) (Bn.wipeE τ own) vs ds) (hio : ioFreeL B own) : StT K B F H σ (Bn.wipeE τ own) vs ds := by
  have io : IoOk B (wipe σ own) := by obtain ⟨_, _, _, _, _, io⟩ := s; exact io
  exact s.reset (wipe_length _ _).symm (fun j d h => (wipe_out (wipeE_in h)).symm) fun p hp => by rw [← wipe_out (hio p hp)]; exact io p hp
theorem wipeE_wipeE {τ : Env} {own : List Nat} : ∀ own2 : List Nat, (∀ j ∈ own2, j ∈ own) → Bn.wipeE (Bn.wipeE τ own) own2 = Bn.wipeE τ own
  | [], _ => rfl
  | v :: vs, h => by
    show (Bn.wipeE (Bn.wipeE τ own) vs).set v none = Bn.wipeE τ own
    rw [wipeE_wipeE vs fun j hj => h j (List.mem_cons_of_mem _ hj)]
    apply List.ext_getElem?
    intro j
    show ((Bn.wipeE τ own).set v none)[j]? = (Bn.wipeE τ own)[j]?
    rw [List.getElem?_set]
    split
    · rename_i e
      subst e
      split
      · cases e2 : (Bn.wipeE τ own)[v]? with
        | none => rw [List.getElem?_eq_none_iff] at e2; omega
        | some x =>
          cases x with
          | none => rfl
          | some d => exact absurd (h v List.mem_cons_self) (wipeE_in e2)
      · rename_i hl; rw [List.getElem?_eq_none (by omega)]
    · rfl
theorem lc_core' {J : It} {items : List D} {tv : List V} {td : List D} {g : D → Env → Option Env} {sl own : List Nat} {t : MT} {m : ME} {K : PySem.W.Frag} {σ : L2.St} {H F : Hp} {τ τ2 : Env} {acc2 : List D} {Q : VK} (ok : ItOk K B J items tv td) (hsl : ∀ j ∈ sl, j ∈ own) (hio : ioFreeL B own) (s : StT K B F H σ τ tv td)
    (e : lcL own g t m items [] (Bn.wipeE τ own) = .ok acc2 τ2) (k : ∀ v F H, StT K B F H σ τ2 (v :: tv) (.lst true acc2 :: td) → Q v H) : ∀ D, H D = none → ∃ W' : Nat → Nat → Hp → Prop, (∃ m, W' 0 m (upd H D (.lst []))) ∧ ∀ i n H, W' i n H →
      (J.stop i H ∧ Q (.ref D) H) ∨ (J.go i H ∧ ∃ Nx : Hp → Prop, (∀ H', Nx H' → ∃ m', m' < n ∧ W' (i + 1) m' H') ∧ ∀ x H', J.yld i H x H' → rdG K B sl g x (wipe σ own) H' fun σ2 H2 => wipe σ2 own = wipe σ own ∧ rdT K B W0 t σ2 H2 fun b H3 =>
        if b = true then rdE K B W0 m σ2 H3 fun y H4 => ∃ acc, H4 D = some (.lst acc) ∧ acc.length < sizeLine ∧ Nx (upd H4 D (.lst (acc ++ [y]))) else Nx H3) := by
  intro D hD
  have s0 : StT K B F (upd H D (.lst [])) σ τ (.ref D :: tv) (.lst true [] :: td) := s.newLst (us := []) (es := []) rfl hD
  have s1 := s0.wiped (own := own) hio
  -- the items are walked with the new list on top
  refine ⟨fun i n H => n = items.length - i ∧ i ≤ items.length ∧ ∃ F τ acc, StT K B F H (wipe σ own) (Bn.wipeE τ own) (.ref D :: tv) (.lst true acc :: td) ∧ lcL own g t m (items.drop i) acc (Bn.wipeE τ own) = .ok acc2 τ2, ⟨_, rfl, Nat.zero_le _, F, τ, [], s1, e⟩, ?_⟩
  rintro i n H ⟨rfl, hi, F, τ, acc, s, e⟩
  by_cases h : i < items.length
  · refine .inr ⟨ok.go i F H _ _ s.pop h, fun H' => ∃ F τ acc, StT K B F H' (wipe σ own) (Bn.wipeE τ own) (.ref D :: tv) (.lst true acc :: td) ∧ lcL own g t m (items.drop (i + 1)) acc (Bn.wipeE τ own) = .ok acc2 τ2,
      fun H' ⟨F', τ', acc', s', e'⟩ => ⟨items.length - (i + 1), by omega, rfl, h, F', τ', acc', s', e'⟩, fun x H' y => ?_⟩
    have ei : items[i]? = some items[i] := by simp [h]
    obtain ⟨F', s'⟩ := ok.y i _ F H _ _ x H' [.ref D] [.lst true acc] rfl ei s y
    rw [List.drop_eq_getElem_cons h] at e
    unfold lcL at e
    cases eg : g items[i] (Bn.wipeE τ own) with
    | none => rw [eg] at e; cases e
    | some τ1 =>
      rw [eg] at e
      refine ⟨F', _, _, _, _, s', τ1, eg, fun σ2 F2 H2 s2 l2 k2 => ⟨?_, F2, τ1, _, _, s2, ?_⟩⟩
      · rw [← wipe_wipe (σ := σ)]
        exact wipe_eq l2 fun j hj => k2 j fun z => hj (hsl j z)
      · have w2 : wipe σ2 own = wipe σ own := by
          rw [← wipe_wipe (σ := σ)]
          exact wipe_eq l2 fun j hj => k2 j fun z => hj (hsl j z)
        cases et : t τ1 with
        | bad => simp only [et, R.bind] at e; cases e
        | ex c τ3 => simp only [et, R.bind] at e; cases e
        | ok b τ3 =>
          simp only [et, R.bind] at e
          intro F3 H3 s3
          cases b with
          | false =>
            simp only [Bool.false_eq_true, if_false] at e
            rw [if_neg Bool.false_ne_true]
            have s4 := s3.wiped (own := own) hio
            rw [w2] at s4
            exact ⟨F3, τ3, acc, s4, e⟩
          | true =>
            simp only [if_true] at e
            rw [if_pos rfl]
            refine ⟨F3, τ3, _, _, s3, ?_⟩
            cases em : m τ3 with
            | bad => simp only [em] at e; cases e
            | ex c τ4 => simp only [em] at e; cases e
            | ok d τ4 =>
              simp only [em] at e
              intro v F4 H4 s4
              by_cases hacc : acc.length < 1000000
              · rw [if_pos hacc] at e
                obtain ⟨ff, q⟩ := s4.pop.top
                obtain ⟨a', vs', g', ea, hx, hg, hq⟩ := q
                cases ea
                refine ⟨vs', hx, ?_, F4, τ4, acc ++ [d], ?_, e⟩
                · rw [hg.length, sizeLine_eq]; omega
                · have s5 := (StT.swap (us := [v]) (es := [d]) s4 rfl).change (us := [v]) (ds := [d]) (ys := vs' ++ [v]) (es2 := acc ++ [d]) rfl hx fun g1 g2 r1 r2 => ⟨_, r1.append r2, fun b => Nat.le_refl _⟩
                  have s6 := s5.wiped (own := own) hio
                  rw [w2] at s6
                  exact s6
              · rw [if_neg hacc] at e; cases e
  · have ei : i = items.length := by omega
    subst ei
    rw [List.drop_length] at e
    cases (show R.ok acc (Bn.wipeE τ own) = R.ok acc2 τ2 from e)
    exact .inl ⟨ok.st F H _ _ s.pop, k _ F H (s.unwiped hio)⟩
end
end Bn

/-! Comprehensions; a def by its function; operators. -/
namespace Bn
open PySem PySem.Spec PyProof.Rows L2
section
variable {X : Cx} {B : Bx} {W : WX}
theorem StT.under {K : PySem.W.Frag} {F H : Hp} {σ : L2.St} {τ : Env} {vs us : List V} {ds es : List D} {v : V} {d : D} (s : StT K B F H σ τ (v :: (us ++ vs)) (d :: (es ++ ds))) (hl : us.length = es.length) : StT K B F H σ τ (v :: vs) (d :: ds) := by
  obtain ⟨f1, f2, A, ⟨v', r', g1, g2, e, b1, b2, q⟩, w, io⟩ := s
  cases e
  obtain ⟨g3, g4, c1, c2, q2⟩ := b2.split' hl
  exact ⟨f1, fun b => g1 b + g4 b, A, ⟨v, vs, g1, g4, rfl, b1, c2, fun _ => rfl⟩, w.less fun b => by show f1 b + (g1 b + g4 b) ≤ f1 b + f2 b; rw [q, q2]; omega, io⟩
theorem PTs.imp {e : List Expr} {t t' : TT} (h : PTs X e t) (k : ∀ σ H Q, t' σ H Q → t σ H Q) : PTs X e t' := ⟨fun p s σ H Q I q => h.run p s σ H Q I (k _ _ _ q)⟩
def tTrue : MT := fun τ => .ok true τ
theorem ts_nil : PTs X [] (rdT X.K B W tTrue) := PTs.imp pts_nil fun σ H Q ⟨F, τ, vs, ds, s, p⟩ => p F H s
theorem ts_one {c : Expr} {t : MT} (h : PT X c (rdT X.K B W t)) : PTs X [c] (rdT X.K B W t) := pts_one h
theorem impLc {own : List Nat} {it : MA} {g : D → Env → Option Env} {sl : List Nat} {t : MT} {m : ME} (hsl : ∀ j ∈ sl, j ∈ own) (hio : ioFreeL B own) (σ : L2.St) (H : Hp) (Q : VK) (h : rdE X.K B W (eLc own it g t m) σ H Q) : tLc (rdI X.K B W it) (rdG X.K B sl g) (rdT X.K B W0 t) (rdE X.K B W0 m) own σ H Q := by
  obtain ⟨F, τ, vs, ds, s, p⟩ := h
  refine ⟨F, τ, vs, ds, s, post_imp (post_bind p) (fun items τ1 q J us es F' H' hl s' ok => ?_) fun _ _ q => q⟩
  cases e : lcL own g t m items [] (Bn.wipeE τ1 own) with
  | ok acc τ2 =>
    simp only [e] at q
    exact lc_core' ok hsl hio s' e fun v F2 H2 s2 => q v F2 H2 (s2.under hl)
  | _ => simp only [e] at q; exact False.elim q
theorem e_lc {elt tg iter : Expr} {ifs : List Expr} {scope : Scope} {own : List (Str × Nat)} {pos : Pos} {it : MA} {g : D → Env → Option Env} {sl : List Nat} {t : MT} {m : ME} (c : XOk X W) (hN : X.N.Nodup) (hi : PI X tg iter (rdI X.K B W it)) (ok : BlkOk X.N X.env.scope scope own)
    (hg : ∀ (s : Shared) (H : Hp) (C : Addr) (cl : List (Str × Addr)) (fp : List Addr), PG (X.blk s H scope (compEnvC scope cl C X.env) fp) tg (rdG X.K B sl g)) (ht : ∀ (s : Shared) (H : Hp) (C : Addr) (cl : List (Str × Addr)) (fp : List Addr), PTs (X.blk s H scope (compEnvC scope cl C X.env) fp) ifs (rdT X.K B W0 t))
    (he : ∀ (s : Shared) (H : Hp) (C : Addr) (cl : List (Str × Addr)) (fp : List Addr), XOk (X.blk s H scope (compEnvC scope cl C X.env) fp) W0 → PE (X.blk s H scope (compEnvC scope cl C X.env) fp) elt (rdE X.K B W0 m))
    (hsl : ∀ j ∈ sl, j ∈ own.map (·.2) := by decide) (hio : ioFreeL B (own.map (·.2)) := by first | (intro p hp; cases hp; done) | (intro p hp; simp only [List.mem_cons, List.not_mem_nil, or_false] at hp; rcases hp with rfl | rfl <;> simp) | (intro p hp; simp only [List.mem_cons, List.not_mem_nil, or_false] at hp; subst hp; simp)) (hs : ∀ x, foldedSetIterable iter X.env x = pure x := by intro _; rfl) :
    PE X (.ListComp elt [⟨tg, iter, ifs, 0⟩] scope pos) (rdE X.K B W (eLc (own.map (·.2)) it g t m)) :=
  PE.imp (pe_lc c.calm hN hi ok hg ht (fun s H C cl fp => he s H C cl fp ⟨takes0, PassesOwn.never, c.calm⟩) hs) (impLc hsl hio)
theorem s_setLc {i : Nat} {y : Str} {py : Pos} {elt tg iter : Expr} {ifs : List Expr} {scope : Scope} {own : List (Str × Nat)} {pos spos : Pos} {it : MA} {g : D → Env → Option Env} {sl : List Nat} {t : MT} {m : ME} (c : XOk X W) (hN : X.N.Nodup) (hy : X.N[i]? = some y) (hyl : X.env.scope.names.lookup y = some .local)
    (hsw : swapsWith (.ListComp elt [⟨tg, iter, ifs, 0⟩] scope pos) (some (.Name y py)) spos.line X.env = pure true) (hi : PI X tg iter (rdI X.K B W it)) (ok : BlkOk X.N X.env.scope scope own)
    (hg : ∀ (s : Shared) (H : Hp) (C : Addr) (cl : List (Str × Addr)) (fp : List Addr), PG (X.blk s H scope (compEnvC scope cl C X.env) fp) tg (rdG X.K B sl g)) (ht : ∀ (s : Shared) (H : Hp) (C : Addr) (cl : List (Str × Addr)) (fp : List Addr), PTs (X.blk s H scope (compEnvC scope cl C X.env) fp) ifs (rdT X.K B W0 t))
    (he : ∀ (s : Shared) (H : Hp) (C : Addr) (cl : List (Str × Addr)) (fp : List Addr), XOk (X.blk s H scope (compEnvC scope cl C X.env) fp) W0 → PE (X.blk s H scope (compEnvC scope cl C X.env) fp) elt (rdE X.K B W0 m))
    (hsl : ∀ j ∈ sl, j ∈ own.map (·.2) := by decide) (hio : ioFreeL B (own.map (·.2)) := by first | (intro p hp; cases hp; done) | (intro p hp; simp only [List.mem_cons, List.not_mem_nil, or_false] at hp; rcases hp with rfl | rfl <;> simp) | (intro p hp; simp only [List.mem_cons, List.not_mem_nil, or_false] at hp; subst hp; simp)) (hio2 : ioFree B i := by first | (intro p hp; cases hp; done) | (intro p hp; simp only [List.mem_cons, List.not_mem_nil, or_false] at hp; rcases hp with rfl | rfl <;> simp) | (intro p hp; simp only [List.mem_cons, List.not_mem_nil, or_false] at hp; subst hp; simp)) (hs : ∀ x, foldedSetIterable iter X.env x = pure x := by intro _; rfl) :
    PS X (.Assign [.Name y py] (.ListComp elt [⟨tg, iter, ifs, 0⟩] scope pos) spos) (rdS X.K B W (sAsg (eLc (own.map (·.2)) it g t m) (gN i))) :=
  PS.imp (ps_setLc c.calm hN hy hyl hsw hi ok hg ht (fun s H C cl fp => he s H C cl fp ⟨takes0, PassesOwn.never, c.calm⟩) hs) fun D σ H ⟨F, τ, vs, ds, s, p⟩ =>
    impLc hsl hio σ H _ ⟨F, τ, vs, ds, s, post_imp (post_s (σ := σ) p) (fun d τ1 q v F1 H1 s1 => q _ F1 H1 (s1.put' hio2)) fun _ _ q => q⟩
end

/-! ### a def -/
def callF (n N : Nat) (b : MS) : List D → CR := fun ds => if ds.length = n then (match b (ds.map some ++ List.replicate (N - n) none) with
  | .nx _ => .ok .non
  | .rt d _ => .ok d
  | .ex c _ => .ex c
  | _ => .bad) else .bad
theorem sl_start {K : PySem.W.Frag} {ca : Str → Addr} {F H : Hp} {k : Nat} : ∀ {ds : List D} {vs : List V}, RepL K ca F ds vs → Sl K ca F H (ds.map some ++ List.replicate k none) (vs.map some ++ List.replicate k none) (fun _ => 0)
  | [], vs, h => by
    cases (show vs = [] from h)
    show Sl K ca F H (List.replicate k none) (List.replicate k none) _
    induction k with
    | zero => exact ⟨rfl, fun _ => rfl⟩
    | succ k ih => exact ⟨none, _, rfl, ih⟩
  | d :: ds, _, ⟨v, r, h1, h2, h3⟩ => by
    subst h1
    exact ⟨v, _, _, _, rfl, h2.o, sl_start h3, fun _ => rfl⟩
section
variable {P : Program} {w : World} {K : PySem.W.Frag} {mg : Str → Option Value} {base : Heap} {ca : Str → Addr}
theorem fn_ok {x qual : Str} {st : Stmt} {f : Addr} {fd : FuncData} {N ps : List Str} {k : Nat} {b : MS} (F : Fun K x qual st f fd) (S : FnScope N ps (defScope st))
    (hb : ∀ (cdv : Value) (A : Around) (outer : List PySem.Env) (s : Shared) (H : Hp) (E : XK) (F0 R : Hp), Room k (A.deeper (envOfC qual (defScope st) s.heap.objs.size f cdv)) →
      XOk (cxOf (L2.CX P w) P w K mg base N qual (defScope st) f cdv A outer s H E) (fun cls d _ H => E cls d H) →
      PSs (cxOf (L2.CX P w) P w K mg base N qual (defScope st) f cdv A outer s H E) (defBody st) (rdS K ⟨ca, F0, R, []⟩ (fun cls d _ H => E cls d H) b)) :
    FnOk P w K mg base (L2.CX P w) (k + 1) f fd ps (spP K ca (callF ps.length N.length b)) := by
  refine F.okX S (fun vs H Q E h => ?_) (fun cdv A outer s H vs Q E hr h => ?_)
  · obtain ⟨F0, ds, _, rl, h⟩ := h
    rw [rl.length]
    by_cases e : ds.length = ps.length
    · exact e
    · unfold callF at h
      rw [if_neg e] at h
      exact h.elim
  · obtain ⟨F0, ds, sm, rl, h⟩ := h
    refine ⟨_, hb cdv A outer s H E F0 H hr ⟨takes_of rfl rfl rfl rfl, passes_of rfl, rfl⟩, ?_⟩
    have hl : ds.length = ps.length := by
      by_cases e : ds.length = ps.length
      · exact e
      · unfold callF at h
        rw [if_neg e] at h
        exact h.elim
    unfold callF at h
    rw [if_pos hl] at h
    have st0 : StT K ⟨ca, F0, H, []⟩ F0 H (L2.start N vs) (ds.map some ++ List.replicate (N.length - ps.length) none) [] [] := by
      refine ⟨fun _ => 0, fun _ => 0, ?_, ⟨rfl, fun _ => rfl⟩, ⟨fun _ => Nat.zero_le _, fun a q => absurd q (Nat.lt_irrefl _), fun a q => absurd q (Nat.lt_irrefl _), sm, Same.refl _, Same.refl _, fun a q => .inl q⟩, fun p hp => by cases hp⟩
      unfold L2.start
      rw [rl.length, hl]
      exact sl_start rl
    refine ⟨F0, _, [], [], st0, ?_⟩
    cases e : b (ds.map some ++ List.replicate (N.length - ps.length) none) with
    | nx τ =>
      rw [e] at h
      intro σ' F' H' s'
      obtain ⟨f1, f2, _, _, w', _⟩ := s'
      exact h .non F' H' (fun _ => 0) w'.s0 w'.sF w'.sR (Rep.o (d := .non) rfl) (fun _ => Nat.zero_le _) (fun a q => absurd q (Nat.lt_irrefl _)) w'.fr
    | rt d τ =>
      rw [e] at h
      intro v σ' F' H' s'
      obtain ⟨f1, f2, _, ⟨_, _, g1, g2, ee, hv, _, q⟩, w', _⟩ := s'
      cases ee
      have le : ∀ a, g1 a ≤ f1 a + f2 a := fun a => by rw [q]; omega
      exact h v F' H' g1 w'.s0 w'.sF w'.sR hv (fun a => Nat.le_trans (le a) (w'.nd a)) (fun a z => ⟨w'.dF a (Nat.lt_of_lt_of_le z (le a)), w'.dR a (Nat.lt_of_lt_of_le z (le a))⟩) w'.fr
    | ex c τ =>
      rw [e] at h
      intro σ' F' H' s'
      obtain ⟨f1, f2, _, _, w', _⟩ := s'
      exact h H' w'.sR
    | bk τ => rw [e] at h; exact h.elim
    | ct τ => rw [e] at h; exact h.elim
    | bad => rw [e] at h; exact h.elim
theorem fo_of {x qual : Str} {st : Stmt} {f : Addr} {fd : FuncData} {ps : List Str} {k : Nat} {g : List D → CR} (F : Fun K x qual st f fd) (hm : mg x = some (.ref f)) (hb : Binds K fd ps []) (h : FnOk P w K mg base (L2.CX P w) k f fd ps (spP K ca g)) : Fo P w K mg base ca k x g := ⟨f, fd, ps, hm, F.kp, hb, h⟩
end
end Bn

/-! Operators and built-in calls by trees. -/
namespace Bn
open PySem PySem.Spec PyProof.Rows L2
section
variable {K : PySem.W.Frag}
def gI (k : Int → Int → D) : D → D → Option D
  | .int i, .int j => some (k i j)
  | _, _ => none
def gIC (C : Int → Int → Prop) [∀ i j, Decidable (C i j)] (k : Int → Int → D) : D → D → Option D
  | .int i, .int j => if C i j then some (k i j) else none
  | _, _ => none
theorem opS_I0 {f : Int → Int → V} {k : Int → Int → D} (h : ∀ ca F i j, Rep K ca F (k i j) (f i j)) : OpS K (rI0 f) (gI k) := by
  intro ca F H x y a b d f1 f2 Q sm hx hy e q
  cases a with
  | int i =>
    cases b with
    | int j =>
      cases (show some (k i j) = some d from e)
      exact ⟨i, j, hx.1, hy.1, q _ _ (h ca F i j).o⟩
    | _ => cases e
  | _ => cases e
theorem opS_IC {C : Int → Int → Prop} [∀ i j, Decidable (C i j)] {f : Int → Int → V} {k : Int → Int → D} (h : ∀ ca F i j, Rep K ca F (k i j) (f i j)) : OpS K (rI C f) (gIC C k) := by
  intro ca F H x y a b d f1 f2 Q sm hx hy e q
  cases a with
  | int i =>
    cases b with
    | int j =>
      by_cases c : C i j
      · have e' : (if C i j then some (k i j) else none) = some d := e
        rw [if_pos c] at e'
        cases e'
        exact ⟨i, j, hx.1, hy.1, c, q _ _ (h ca F i j).o⟩
      · have e' : (if C i j then some (k i j) else none) = some d := e
        rw [if_neg c] at e'; cases e'
    | _ => cases e
  | _ => cases e
def gAdd : D → D → Option D := gI fun i j => .int (i + j)
def gSub : D → D → Option D := gI fun i j => .int (i - j)
instance {i j : Int} : Decidable (CMulW i j) := by unfold CMulW; infer_instance
instance {i j : Int} : Decidable (CDivW i j) := by unfold CDivW; infer_instance
instance {i j : Int} : Decidable (CPow i j) := by unfold CPow; infer_instance
def gMul : D → D → Option D := gIC CMulW fun i j => .int (i * j)
def gDiv : D → D → Option D := gIC CDivW fun i j => .int (i / j)
def gMod : D → D → Option D := gIC (fun _ j => 0 < j) fun i j => .int (i % j)
def gPow : D → D → Option D := gIC CPow fun i j => .int (i ^ j.toNat)
def gLt : D → D → Option D := gI fun i j => .bl (decide (i < j))
def gLe : D → D → Option D := gI fun i j => .bl (decide (i ≤ j))
def gGt : D → D → Option D := gI fun i j => .bl (decide (j < i))
def gGe : D → D → Option D := gI fun i j => .bl (decide (j ≤ i))
theorem sAdd : OpS K (rI0 fun i j => .int (i + j)) gAdd := opS_I0 fun _ _ _ _ => rfl
theorem sSub : OpS K (rI0 fun i j => .int (i - j)) gSub := opS_I0 fun _ _ _ _ => rfl
theorem sMul : OpS K (rI CMulW fun i j => .int (i * j)) gMul := opS_IC fun _ _ _ _ => rfl
theorem sDiv : OpS K (rI CDivW fun i j => .int (i / j)) gDiv := opS_IC fun _ _ _ _ => rfl
theorem sMod : OpS K (rI (fun _ j => 0 < j) fun i j => .int (i % j)) gMod := opS_IC fun _ _ _ _ => rfl
theorem sPow : OpS K (rI CPow fun i j => .int (i ^ j.toNat)) gPow := opS_IC fun _ _ _ _ => rfl
theorem sLt : OpS K (rI0 fun i j => .bl (decide (i < j))) gLt := opS_I0 fun _ _ _ _ => rfl
theorem sLe : OpS K (rI0 fun i j => .bl (decide (i ≤ j))) gLe := opS_I0 fun _ _ _ _ => rfl
theorem sGt : OpS K (rI0 fun i j => .bl (decide (j < i))) gGt := opS_I0 fun _ _ _ _ => rfl
theorem sGe : OpS K (rI0 fun i j => .bl (decide (j ≤ i))) gGe := opS_I0 fun _ _ _ _ => rfl
def gNeg : D → Option D
  | .int i => some (.int (-i))
  | _ => none
theorem sNeg : UnS K (rU fun i => .int (-i)) gNeg := by
  intro ca F H x a d f1 Q sm hx e q
  cases a with
  | int i =>
    cases (show some (D.int (-i)) = some d from e)
    exact ⟨i, hx.1, q (.int (-i)) _ (Rep.o (d := .int (-i)) rfl)⟩
  | _ => cases e
def gAddS : D → D → Option D
  | .str i, .str j => if i.length + j.length ≤ 1000000 then some (.str (i ++ j)) else none
  | _, _ => none
theorem sAddS : OpS K (fun x y H Q => ∃ i j, x = .str i ∧ y = .str j ∧ i.length + j.length ≤ sizeLine ∧ Q (.str (i ++ j)) H) gAddS := by
  intro ca F H x y a b d f1 f2 Q sm hx hy e q
  cases a with
  | str i =>
    cases b with
    | str j =>
      by_cases c : i.length + j.length ≤ 1000000
      · have e' : (if i.length + j.length ≤ 1000000 then some (D.str (i ++ j)) else none) = some d := e
        rw [if_pos c] at e'
        cases e'
        exact ⟨i, j, hx.1, hy.1, le_sizeLine c, q (.str (i ++ j)) _ (Rep.o (d := .str (i ++ j)) rfl)⟩
      · have e' : (if i.length + j.length ≤ 1000000 then some (D.str (i ++ j)) else none) = some d := e
        rw [if_neg c] at e'; cases e'
    | _ => cases e
  | _ => cases e

/-! ### == of data -/
mutual
def toP : D → PyData
  | .bl b => .bool b
  | .int i => .int i
  | .str s => .str s
  | .tup xs => .tuple (toPs xs)
  | .lst _ xs => .list (toPs xs)
  | .cst xs => .list (toPs xs)
  | .non => .none
  | .ty _ => .none
  | .obj _ _ _ _ => .none
def toPs : List D → List PyData
  | [] => []
  | x :: xs => toP x :: toPs xs
end
mutual
def hasP : D → Bool
  | .tup xs => hasPs xs
  | .lst _ xs => hasPs xs
  | .cst xs => hasPs xs
  | .ty _ => false
  | .obj _ _ _ _ => false
  | .bl _ => true | .int _ => true | .str _ => true | .non => true
def hasPs : List D → Bool
  | [] => true
  | x :: xs => hasP x && hasPs xs
end
section
variable {ca : Str → Addr} {F H : Hp}
mutual
theorem Rep.dp (sm : Same F H) : ∀ (d : D) (v : V), hasP d = true → Rep K ca F d v → Dp K H v (toP d)
  | .non, v, _, h => by cases (show v = .non from h); exact .non
  | .bl b, v, _, h => by cases (show v = .bl b from h); exact .bl b
  | .int b, v, _, h => by cases (show v = .int b from h); exact .int b
  | .str b, v, _, h => by cases (show v = .str b from h); exact .str b
  | .tup ds, v, z, h => by
    obtain ⟨a, vs, rfl, h1, h2⟩ := h
    exact .tup (sqT_same sm h1) (RepL.dp sm ds vs z h2)
  | .lst true _, _, _, h => h.elim
  | .lst false ds, v, z, h => by
    obtain ⟨a, vs, rfl, h1, h2⟩ := h
    exact .lst (sqOf (sm _ _ h1)) (RepL.dp sm ds vs z h2)
  | .cst ds, v, z, h => by
    obtain ⟨a, vs, rfl, h1, h2⟩ := h
    exact .lst (sm.seq h1) (RepL.dp sm ds vs z h2)
theorem RepL.dp (sm : Same F H) : ∀ (ds : List D) (vs : List V), hasPs ds = true → RepL K ca F ds vs → DpAll K H vs (toPs ds)
  | [], vs, _, h => by cases (show vs = [] from h); exact .nil
  | d :: ds, _, z, ⟨v, r, h1, h2, h3⟩ => by
    subst h1
    have z' : (hasP d && hasPs ds) = true := z
    rw [Bool.and_eq_true] at z'
    exact .cons (Rep.dp sm d v z'.1 h2) (RepL.dp sm ds r z'.2 h3)
end
mutual
theorem RepO.dp (sm : Same F H) : ∀ (d : D) (v : V) (f : Ct), hasP d = true → RepO K ca F H d v f → Dp K H v (toP d)
  | .lst true ds, v, f, z, h => by
    obtain ⟨a, vs, g, rfl, h1, h2, _⟩ := h
    exact .lst (sqOf h1) (RepOs.dp sm ds vs g z h2)
  | .lst false ds, v, f, z, h => Rep.dp sm _ _ z h.1
  | .non, v, f, z, h => Rep.dp sm _ _ z h.1
  | .bl _, v, f, z, h => Rep.dp sm _ _ z h.1
  | .int _, v, f, z, h => Rep.dp sm _ _ z h.1
  | .str _, v, f, z, h => Rep.dp sm _ _ z h.1
  | .tup _, v, f, z, h => Rep.dp sm _ _ z h.1
  | .cst _, v, f, z, h => Rep.dp sm _ _ z h.1
theorem RepOs.dp (sm : Same F H) : ∀ (ds : List D) (vs : List V) (f : Ct), hasPs ds = true → RepOs K ca F H ds vs f → DpAll K H vs (toPs ds)
  | [], vs, _, _, h => by cases (show vs = [] from h.1); exact .nil
  | d :: ds, _, f, z, ⟨v, r, f1, f2, h1, h2, h3, _⟩ => by
    subst h1
    have z' : (hasP d && hasPs ds) = true := z
    rw [Bool.and_eq_true] at z'
    exact .cons (RepO.dp sm d v f1 z'.1 h2) (RepOs.dp sm ds r f2 z'.2 h3)
end
end
def okP (d : D) : Bool := hasP d && SeqAt.shaped (toP d)
def eqP (a b : D) : Bool := PyData.eqv (toP a) (toP b)
def gEq (a b : D) : Option D := if okP a = true ∧ okP b = true then some (.bl (eqP a b)) else none
def gNe (a b : D) : Option D := if okP a = true ∧ okP b = true then some (.bl (!eqP a b)) else none
theorem sEq : OpS K (rEqD K) gEq := by
  intro ca F H x y a b d f1 f2 Q sm hx hy e q
  unfold gEq at e
  by_cases c : okP a = true ∧ okP b = true
  · rw [if_pos c] at e
    cases e
    have c1 := c.1
    have c2 := c.2
    unfold okP at c1 c2
    rw [Bool.and_eq_true] at c1 c2
    exact ⟨_, _, RepO.dp sm a x f1 c1.1 hx, RepO.dp sm b y f2 c2.1 hy, c1.2, c2.2, q (.bl _) _ (Rep.o (d := .bl _) rfl)⟩
  · rw [if_neg c] at e; cases e
theorem sNe : OpS K (rNeD K) gNe := by
  intro ca F H x y a b d f1 f2 Q sm hx hy e q
  unfold gNe at e
  by_cases c : okP a = true ∧ okP b = true
  · rw [if_pos c] at e
    cases e
    have c1 := c.1
    have c2 := c.2
    unfold okP at c1 c2
    rw [Bool.and_eq_true] at c1 c2
    exact ⟨_, _, RepO.dp sm a x f1 c1.1 hx, RepO.dp sm b y f2 c2.1 hy, c1.2, c2.2, q (.bl _) _ (Rep.o (d := .bl _) rfl)⟩
  · rw [if_neg c] at e; cases e
def isNonD : D → Bool
  | .non => true
  | _ => false
def gIsN (a b : D) : Option D := match b with
  | .non => some (.bl (isNonD a))
  | _ => none
def gNotN (a b : D) : Option D := match b with
  | .non => some (.bl (!isNonD a))
  | _ => none
theorem isN_of {ca : Str → Addr} {F H : Hp} {a : D} {x : V} {f : Ct} (h : RepO K ca F H a x f) : decide (x = .non) = isNonD a := by
  cases a with
  | non => cases (show x = .non from h.1); rfl
  | bl b => cases (show x = .bl b from h.1); rfl
  | int b => cases (show x = .int b from h.1); rfl
  | str b => cases (show x = .str b from h.1); rfl
  | ty b => cases (show x = .ty b from h.1); rfl
  | tup ds => obtain ⟨⟨a, vs, rfl, _⟩, _⟩ := h; rfl
  | cst ds => obtain ⟨⟨a, vs, rfl, _⟩, _⟩ := h; rfl
  | lst m ds => cases m with
    | true => obtain ⟨a, vs, g, rfl, _⟩ := h; rfl
    | false => obtain ⟨⟨a, vs, rfl, _⟩, _⟩ := h; rfl
  | obj m c ns ds => cases m with
    | true => obtain ⟨a, dx, fs, vs, g, rfl, _⟩ := h; rfl
    | false => obtain ⟨⟨a, dx, fs, vs, rfl, _⟩, _⟩ := h; rfl
theorem sIsN : OpS K (fun x y H Q => y = .non ∧ Q (.bl (decide (x = .non))) H) gIsN := by
  intro ca F H x y a b d f1 f2 Q sm hx hy e q
  cases b with
  | non =>
    cases (show some (D.bl (isNonD a)) = some d from e)
    refine ⟨hy.1, ?_⟩
    rw [isN_of hx]
    exact q (.bl _) _ (Rep.o (d := .bl _) rfl)
  | _ => cases e
theorem sNotN : OpS K (fun x y H Q => y = .non ∧ Q (.bl (!decide (x = .non))) H) gNotN := by
  intro ca F H x y a b d f1 f2 Q sm hx hy e q
  cases b with
  | non =>
    cases (show some (D.bl (!isNonD a)) = some d from e)
    refine ⟨hy.1, ?_⟩
    rw [isN_of hx]
    exact q (.bl _) _ (Rep.o (d := .bl _) rfl)
  | _ => cases e

/-! ### subscripts, len -/
def itemsD : D → Option (List D)
  | .lst _ xs => some xs
  | .cst xs => some xs
  | .tup xs => some xs
  | _ => none
def gIx (a b : D) : Option D := match b with
  | .int i => (match a with
    | .str z => if z.length ≤ 1000000 then (atI z.cps.toList i).map fun c => .str ⟨#[c]⟩ else none
    | .lst _ xs => atI xs i
    | .cst xs => atI xs i
    | .tup xs => atI xs i
    | _ => none)
  | _ => none
theorem atI_get {α β : Type} {xs : List α} {ys : List β} {i : Int} {y : β} (hl : xs.length = ys.length) (h : atI ys i = some y) : ∃ (j : Nat) (x : α), ys[j]? = some y ∧ xs[j]? = some x ∧ atI xs i = some x := by
  unfold atI at h ⊢
  obtain ⟨j, e, h⟩ := bind_some h
  have hj : j < ys.length := (List.getElem?_eq_some_iff.mp h).1
  obtain ⟨x, hx⟩ : ∃ x, xs[j]? = some x := ⟨xs[j]'(by omega), by simp [hl, hj]⟩
  refine ⟨j, x, h, hx, ?_⟩
  rw [hl, e]
  exact hx
theorem seq_of {ca : Str → Addr} {F H : Hp} {a : D} {x : V} {f : Ct} {xs : List D} (sm : Same F H) (h : RepO K ca F H a x f) (e : itemsD a = some xs) : ∃ p vs g, x = .ref p ∧ (SqL K H p vs ∨ SqT K H p vs) ∧ RepOs K ca F H xs vs g := by
  cases a with
  | tup ds =>
    cases (show some ds = some xs from e)
    obtain ⟨⟨a, vs, rfl, h1, h2⟩, _⟩ := h
    exact ⟨a, vs, _, rfl, .inr (sqT_same sm h1), h2.os⟩
  | cst ds =>
    cases (show some ds = some xs from e)
    obtain ⟨⟨a, vs, rfl, h1, h2⟩, _⟩ := h
    exact ⟨a, vs, _, rfl, .inl (sm.seq h1), h2.os⟩
  | lst m ds =>
    cases (show some ds = some xs from e)
    cases m with
    | true =>
      obtain ⟨a, vs, g, rfl, h1, h2, _⟩ := h
      exact ⟨a, vs, g, rfl, .inl (sqOf h1), h2⟩
    | false =>
      obtain ⟨⟨a, vs, rfl, h1, h2⟩, _⟩ := h
      exact ⟨a, vs, _, rfl, .inl (sqOf (sm _ _ h1)), h2.os⟩
  | _ => cases e
theorem gIx_seq {a d : D} {i : Int} (e : gIx a (.int i) = some d) : (∃ xs, itemsD a = some xs ∧ atI xs i = some d) ∨ ∃ z c, a = .str z ∧ z.length ≤ 1000000 ∧ atI z.cps.toList i = some c ∧ d = .str ⟨#[c]⟩ := by
  cases a with
  | tup xs => exact .inl ⟨xs, rfl, e⟩
  | cst xs => exact .inl ⟨xs, rfl, e⟩
  | lst m xs => exact .inl ⟨xs, rfl, e⟩
  | str z =>
    have e' : (if z.length ≤ 1000000 then (atI z.cps.toList i).map fun c => D.str ⟨#[c]⟩ else none) = some d := e
    by_cases c : z.length ≤ 1000000
    · rw [if_pos c] at e'
      cases e2 : atI z.cps.toList i with
      | none => rw [e2] at e'; cases e'
      | some c' =>
        rw [e2] at e'
        exact .inr ⟨z, c', rfl, c, e2, (Option.some.inj e').symm⟩
    · rw [if_neg c] at e'; cases e'
  | _ => cases e
theorem sIx : OpS K (rIx K) gIx := by
  intro ca F H x y a b d f1 f2 Q sm hx hy e q
  cases b with
  | int i =>
    rcases gIx_seq e with ⟨xs, e1, e2⟩ | ⟨z, c, rfl, hz, e2, rfl⟩
    · obtain ⟨p, vs, g, rfl, h1, h2⟩ := seq_of sm hx e1
      obtain ⟨j, v, g1, g2, g3⟩ := atI_get h2.length e2
      obtain ⟨v', g', k1, k2⟩ := h2.get g1
      rw [g2] at k1; cases k1
      rcases h1 with h1 | h1
      · exact .inl ⟨p, vs, i, v, rfl, hy.1, h1, g3, q v _ k2⟩
      · exact .inr (.inl ⟨p, vs, i, v, rfl, hy.1, h1, g3, q v _ k2⟩)
    · exact .inr (.inr ⟨z, i, c, hx.1, hy.1, le_sizeLine hz, e2, q (.str ⟨#[c]⟩) _ (Rep.o (d := .str _) rfl)⟩)
  | _ => cases e
def gLen : List D → Option D
  | [.str z] => if z.length ≤ 1000000 then some (.int (z.length : Nat)) else none
  | [a] => (itemsD a).map fun xs => .int (xs.length : Nat)
  | _ => none
theorem repOs1 {ca : Str → Addr} {F H : Hp} {a : D} {xs : List V} {f : Ct} (h : RepOs K ca F H [a] xs f) : ∃ x g, xs = [x] ∧ RepO K ca F H a x g := by
  obtain ⟨x, r, f1, f2, rfl, h1, ⟨rfl, _⟩, _⟩ := h
  exact ⟨x, f1, rfl, h1⟩
theorem repOs2 {ca : Str → Addr} {F H : Hp} {a b : D} {xs : List V} {f : Ct} (h : RepOs K ca F H [a, b] xs f) : ∃ x y g g', xs = [x, y] ∧ RepO K ca F H a x g ∧ RepO K ca F H b y g' := by
  obtain ⟨x, r, f1, f2, rfl, h1, h2, _⟩ := h
  obtain ⟨y, g', rfl, h3⟩ := repOs1 h2
  exact ⟨x, y, f1, g', rfl, h1, h3⟩
theorem sLen : CallS K (fun xs H Q => ∃ x n, xs = [x] ∧ LenV K x H n ∧ Q (.int n) H) gLen := by
  intro ca F H xs as d f1 Q sm hx e q
  unfold gLen at e
  split at e
  · rename_i z
    obtain ⟨x, g, rfl, h⟩ := repOs1 hx
    cases (show x = .str z from h.1)
    by_cases c : z.length ≤ 1000000
    · rw [if_pos c] at e; cases e
      exact ⟨_, z.length, rfl, ⟨le_sizeLine c, rfl⟩, q (.int _) _ (Rep.o (d := .int _) rfl)⟩
    · rw [if_neg c] at e; cases e
  · rename_i a _
    obtain ⟨x, g, rfl, h⟩ := repOs1 hx
    cases ei : itemsD a with
    | none => rw [ei] at e; cases e
    | some ys =>
      rw [ei] at e
      cases (show some (D.int (ys.length : Nat)) = some d from e)
      obtain ⟨p, vs, g, rfl, h1, h2⟩ := seq_of sm h ei
      refine ⟨_, ys.length, rfl, ?_, q (.int _) _ (Rep.o (d := .int _) rfl)⟩
      rcases h1 with h1 | h1
      · exact .inl ⟨vs, h1, h2.length.symm⟩
      · exact .inr ⟨vs, h1, h2.length.symm⟩
  · cases e

/-! ### abs, min, max -/
def gAbs : List D → Option D
  | [.int i] => some (.int (if i < 0 then -i else i))
  | _ => none
def gMin2 : List D → Option D
  | [.int i, .int j] => some (.int (if j < i then j else i))
  | _ => none
def gMax2 : List D → Option D
  | [.int i, .int j] => some (.int (if j > i then j else i))
  | _ => none
theorem sAbs : CallS K (fun xs H Q => ∃ i, xs = [.int i] ∧ Q (.int (if i < 0 then -i else i)) H) gAbs := by
  intro ca F H xs as d f1 Q sm hx e q
  unfold gAbs at e
  split at e
  · rename_i i
    cases e
    obtain ⟨x, g, rfl, h⟩ := repOs1 hx
    cases (show x = .int i from h.1)
    exact ⟨i, rfl, q (.int _) _ (Rep.o (d := .int _) rfl)⟩
  · cases e

theorem sMin2 : CallS K (fun xs H Q => ∃ i j, xs = [.int i, .int j] ∧ Q (.int (if j < i then j else i)) H) gMin2 := by
  intro ca F H xs as d f1 Q sm hx e q
  unfold gMin2 at e
  split at e
  · rename_i i j
    cases e
    obtain ⟨x, y, g, g', rfl, h, h'⟩ := repOs2 hx
    cases (show x = .int i from h.1)
    cases (show y = .int j from h'.1)
    exact ⟨i, j, rfl, q (.int _) _ (Rep.o (d := .int _) rfl)⟩
  · cases e

theorem sMax2 : CallS K (fun xs H Q => ∃ i j, xs = [.int i, .int j] ∧ Q (.int (if j > i then j else i)) H) gMax2 := by
  intro ca F H xs as d f1 Q sm hx e q
  unfold gMax2 at e
  split at e
  · rename_i i j
    cases e
    obtain ⟨x, y, g, g', rfl, h, h'⟩ := repOs2 hx
    cases (show x = .int i from h.1)
    cases (show y = .int j from h'.1)
    exact ⟨i, j, rfl, q (.int _) _ (Rep.o (d := .int _) rfl)⟩
  · cases e

/-- the ints of a list of ints -/
def intsOf : List D → Option (List Int)
  | [] => some []
  | .int i :: r => (intsOf r).map (i :: ·)
  | _ => none
theorem ints_map : ∀ ns : List Int, intsOf (ns.map D.int) = some ns
  | [] => rfl
  | i :: r => by show (intsOf (r.map D.int)).map (i :: ·) = _; rw [ints_map r]; rfl
theorem repOs_ints {ca : Str → Addr} {F H : Hp} : ∀ {ds : List D} {vs : List V} {f : Ct} {ns : List Int}, RepOs K ca F H ds vs f → intsOf ds = some ns → vs = ns.map V.int
  | [], vs, f, ns, h, e => by
    cases (show some [] = some ns from e)
    exact h.1
  | d :: r, vs, f, ns, h, e => by
    obtain ⟨v, r', f1, f2, h1, h2, h3, _⟩ := h
    cases d with
    | int i =>
      have e' : (intsOf r).map (i :: ·) = some ns := e
      cases e2 : intsOf r with
      | none => rw [e2] at e'; cases e'
      | some ms =>
        rw [e2] at e'
        cases (show some (i :: ms) = some ns from e')
        rw [h1, repOs_ints h3 e2, (show v = .int i from h2.1)]
        rfl
    | _ => cases e
def minI : Int → List Int → Int
  | m, [] => m
  | m, x :: xs => minI (if x < m then x else m) xs
def maxI : Int → List Int → Int
  | m, [] => m
  | m, x :: xs => maxI (if m < x then x else m) xs
theorem minI_le : ∀ (m : Int) (xs : List Int), minI m xs ≤ m ∧ (∀ x ∈ xs, minI m xs ≤ x) ∧ (minI m xs = m ∨ minI m xs ∈ xs)
  | m, [] => ⟨Int.le_refl _, by simp, .inl rfl⟩
  | m, x :: xs => by
    obtain ⟨h1, h2, h3⟩ := minI_le (if x < m then x else m) xs
    show minI (if x < m then x else m) xs ≤ m ∧ (∀ y ∈ x :: xs, minI (if x < m then x else m) xs ≤ y) ∧ (minI (if x < m then x else m) xs = m ∨ minI (if x < m then x else m) xs ∈ x :: xs)
    have a0 : (if x < m then x else m) ≤ m ∧ (if x < m then x else m) ≤ x := by split <;> omega
    have a : minI (if x < m then x else m) xs ≤ m ∧ minI (if x < m then x else m) xs ≤ x := ⟨Int.le_trans h1 a0.1, Int.le_trans h1 a0.2⟩
    refine ⟨a.1, fun y hy => ?_, ?_⟩
    · rcases List.mem_cons.mp hy with rfl | hy
      · exact a.2
      · exact h2 y hy
    · rcases h3 with h3 | h3
      · rw [h3]
        split
        · exact .inr List.mem_cons_self
        · exact .inl rfl
      · exact .inr (List.mem_cons_of_mem _ h3)
theorem maxI_le : ∀ (m : Int) (xs : List Int), m ≤ maxI m xs ∧ (∀ x ∈ xs, x ≤ maxI m xs) ∧ (maxI m xs = m ∨ maxI m xs ∈ xs)
  | m, [] => ⟨Int.le_refl _, by simp, .inl rfl⟩
  | m, x :: xs => by
    obtain ⟨h1, h2, h3⟩ := maxI_le (if m < x then x else m) xs
    show m ≤ maxI (if m < x then x else m) xs ∧ (∀ y ∈ x :: xs, y ≤ maxI (if m < x then x else m) xs) ∧ (maxI (if m < x then x else m) xs = m ∨ maxI (if m < x then x else m) xs ∈ x :: xs)
    have a0 : m ≤ (if m < x then x else m) ∧ x ≤ (if m < x then x else m) := by split <;> omega
    have a : m ≤ maxI (if m < x then x else m) xs ∧ x ≤ maxI (if m < x then x else m) xs := ⟨Int.le_trans a0.1 h1, Int.le_trans a0.2 h1⟩
    refine ⟨a.1, fun y hy => ?_, ?_⟩
    · rcases List.mem_cons.mp hy with rfl | hy
      · exact a.2
      · exact h2 y hy
    · rcases h3 with h3 | h3
      · rw [h3]
        split
        · exact .inr List.mem_cons_self
        · exact .inl rfl
      · exact .inr (List.mem_cons_of_mem _ h3)
def lstD : D → Option (List D)
  | .lst _ xs => some xs
  | .cst xs => some xs
  | _ => none
theorem lst_of {ca : Str → Addr} {F H : Hp} {a : D} {x : V} {f : Ct} {xs : List D} (sm : Same F H) (h : RepO K ca F H a x f) (e : lstD a = some xs) : ∃ p vs g, x = .ref p ∧ SqL K H p vs ∧ RepOs K ca F H xs vs g := by
  cases a with
  | cst ds =>
    cases (show some ds = some xs from e)
    obtain ⟨⟨a, vs, rfl, h1, h2⟩, _⟩ := h
    exact ⟨a, vs, _, rfl, sm.seq h1, h2.os⟩
  | lst m ds =>
    cases (show some ds = some xs from e)
    cases m with
    | true =>
      obtain ⟨a, vs, g, rfl, h1, h2, _⟩ := h
      exact ⟨a, vs, g, rfl, sqOf h1, h2⟩
    | false =>
      obtain ⟨⟨a, vs, rfl, h1, h2⟩, _⟩ := h
      exact ⟨a, vs, _, rfl, sqOf (sm _ _ h1), h2.os⟩
  | _ => cases e
def gMinL : List D → Option D
  | [a] => match (lstD a).bind intsOf with
    | some (m :: r) => some (.int (minI m r))
    | _ => none
  | _ => none
def gMaxL : List D → Option D
  | [a] => match (lstD a).bind intsOf with
    | some (m :: r) => some (.int (maxI m r))
    | _ => none
  | _ => none
def gSum : List D → Option D
  | [a] => match (lstD a).bind intsOf with
    | some ns => some (.int ns.sum)
    | _ => none
  | _ => none
theorem sMinL : CallS K (rMin K) gMinL := by
  intro ca F H xs as d f1 Q sm hx e q
  unfold gMinL at e
  split at e
  · rename_i a
    split at e
    · rename_i m r e1
      cases e
      obtain ⟨x, g, rfl, h⟩ := repOs1 hx
      obtain ⟨ds, e2, e3⟩ := bind_some e1
      obtain ⟨p, vs, g, rfl, h1, h2⟩ := lst_of sm h e2
      refine ⟨p, m :: r, rfl, by rw [← repOs_ints h2 e3]; exact h1, by simp, fun n hn hle => ?_⟩
      have k := minI_le m r
      have : n = minI m r := by
          have a1 : minI m r ≤ n := by
            rcases List.mem_cons.mp hn with rfl | z
            · exact k.1
            · exact k.2.1 n z
          have a2 : n ≤ minI m r := by
            rcases k.2.2 with z | z
            · rw [z]; exact hle m List.mem_cons_self
            · exact hle _ (List.mem_cons_of_mem _ z)
          omega
      subst this
      exact q (.int _) _ (Rep.o (d := .int _) rfl)
    · cases e
  · cases e

theorem sMaxL : CallS K (rMax K) gMaxL := by
  intro ca F H xs as d f1 Q sm hx e q
  unfold gMaxL at e
  split at e
  · rename_i a
    split at e
    · rename_i m r e1
      cases e
      obtain ⟨x, g, rfl, h⟩ := repOs1 hx
      obtain ⟨ds, e2, e3⟩ := bind_some e1
      obtain ⟨p, vs, g, rfl, h1, h2⟩ := lst_of sm h e2
      refine ⟨p, m :: r, rfl, by rw [← repOs_ints h2 e3]; exact h1, by simp, fun n hn hle => ?_⟩
      have k := maxI_le m r
      have : n = maxI m r := by
          have a1 : n ≤ maxI m r := by
            rcases List.mem_cons.mp hn with rfl | z
            · exact k.1
            · exact k.2.1 n z
          have a2 : maxI m r ≤ n := by
            rcases k.2.2 with z | z
            · rw [z]; exact hle m List.mem_cons_self
            · exact hle _ (List.mem_cons_of_mem _ z)
          omega
      subst this
      exact q (.int _) _ (Rep.o (d := .int _) rfl)
    · cases e
  · cases e

theorem sSum : CallS K (rSum K) gSum := by
  intro ca F H xs as d f1 Q sm hx e q
  unfold gSum at e
  split at e
  · rename_i a
    split at e
    · rename_i ns e1
      cases e
      obtain ⟨x, g, rfl, h⟩ := repOs1 hx
      obtain ⟨ds, e2, e3⟩ := bind_some e1
      obtain ⟨p, vs, g, rfl, h1, h2⟩ := lst_of sm h e2
      exact ⟨p, ns, rfl, by rw [← repOs_ints h2 e3]; exact h1, q (.int _) _ (Rep.o (d := .int _) rfl)⟩
    · cases e
  · cases e

/-- the boolsOf of a list of boolsOf -/
def boolsOf : List D → Option (List Bool)
  | [] => some []
  | .bl i :: r => (boolsOf r).map (i :: ·)
  | _ => none
theorem bools_map : ∀ ns : List Bool, boolsOf (ns.map D.bl) = some ns
  | [] => rfl
  | i :: r => by show (boolsOf (r.map D.bl)).map (i :: ·) = _; rw [bools_map r]; rfl
theorem repOs_bools {ca : Str → Addr} {F H : Hp} : ∀ {ds : List D} {vs : List V} {f : Ct} {ns : List Bool}, RepOs K ca F H ds vs f → boolsOf ds = some ns → vs = ns.map V.bl
  | [], vs, f, ns, h, e => by
    cases (show some [] = some ns from e)
    exact h.1
  | d :: r, vs, f, ns, h, e => by
    obtain ⟨v, r', f1, f2, h1, h2, h3, _⟩ := h
    cases d with
    | bl i =>
      have e' : (boolsOf r).map (i :: ·) = some ns := e
      cases e2 : boolsOf r with
      | none => rw [e2] at e'; cases e'
      | some ms =>
        rw [e2] at e'
        cases (show some (i :: ms) = some ns from e')
        rw [h1, repOs_bools h3 e2, (show v = .bl i from h2.1)]
        rfl
    | _ => cases e
def gAll : List D → Option D
  | [a] => match (lstD a).bind boolsOf with
    | some ns => some (.bl (ns.all id))
    | _ => none
  | _ => none
def gAny : List D → Option D
  | [a] => match (lstD a).bind boolsOf with
    | some ns => some (.bl (ns.any id))
    | _ => none
  | _ => none
theorem sAll : CallS K (rAll K) gAll := by
  intro ca F H xs as d f1 Q sm hx e q
  unfold gAll at e
  split at e
  · rename_i a
    split at e
    · rename_i ns e1
      cases e
      obtain ⟨x, g, rfl, h⟩ := repOs1 hx
      obtain ⟨ds, e2, e3⟩ := bind_some e1
      obtain ⟨p, vs, g, rfl, h1, h2⟩ := lst_of sm h e2
      exact ⟨p, ns, rfl, by rw [← repOs_bools h2 e3]; exact h1, q (.bl _) _ (Rep.o (d := .bl _) rfl)⟩
    · cases e
  · cases e

theorem sAny : CallS K (rAny K) gAny := by
  intro ca F H xs as d f1 Q sm hx e q
  unfold gAny at e
  split at e
  · rename_i a
    split at e
    · rename_i ns e1
      cases e
      obtain ⟨x, g, rfl, h⟩ := repOs1 hx
      obtain ⟨ds, e2, e3⟩ := bind_some e1
      obtain ⟨p, vs, g, rfl, h1, h2⟩ := lst_of sm h e2
      exact ⟨p, ns, rfl, by rw [← repOs_bools h2 e3]; exact h1, q (.bl _) _ (Rep.o (d := .bl _) rfl)⟩
    · cases e
  · cases e

/-! ### isinstance -/
def tyOfD : D → Option String
  | .non => none | .bl _ => some "bool" | .int _ => some "int" | .str _ => some "str"
  | .tup _ => some "tuple" | .lst _ _ => some "list" | .cst _ => some "list" | .ty _ => none | .obj _ _ _ _ => none
def isiT (t u : String) : Option Bool := if t = u then some true else if t = "bool" ∧ u = "int" then some true else if t ∈ ["bool", "int", "str", "tuple", "list"] ∧ u ∈ ["bool", "int", "str", "tuple", "list"] then some false else none
def gIsi : List D → Option D
  | [a, .ty u] => match tyOfD a with
    | some t => if t ∈ ["bool", "int", "str", "tuple", "list"] ∧ u ∈ ["bool", "int", "str", "tuple", "list"] then some (.bl (decide (t = u) || (decide (t = "bool") && decide (u = "int")))) else none
    | none => none
  | _ => none
theorem kitOne_isi {K : PySem.W.Frag} {t u : String} (h : t ∈ ["bool", "int", "str", "tuple", "list"]) (k : u ∈ ["bool", "int", "str", "tuple", "list"]) : PySem.W.kitOne K (.type t) (.type u) = some (decide (t = u) || (decide (t = "bool") && decide (u = "int"))) := by
  simp only [List.mem_cons, List.not_mem_nil, or_false] at h k
  rcases h with rfl | rfl | rfl | rfl | rfl <;> rcases k with rfl | rfl | rfl | rfl | rfl <;> exact kit_ty (by decide +kernel)
theorem ty_of {ca : Str → Addr} {F H : Hp} {a : D} {x : V} {f : Ct} {t : String} (sm : Same F H) (h : RepO K ca F H a x f) (e : tyOfD a = some t) : TyX K H x (.type t) := by
  have L : ∀ {p vs}, SqL K H p vs → TyX K H (.ref p) (.type "list") := fun {p vs} s => by
    rcases s with (s | ⟨o, s⟩) | ⟨o, its, n, k1, k2, _⟩
    · exact .base (.lst s)
    · exact .base (.frz s)
    · exact .kList k1 k2
  have T : ∀ {p vs}, SqT K H p vs → TyX K H (.ref p) (.type "tuple") := fun {p vs} s => by
    rcases s with (s | ⟨o, s⟩) | ⟨o, its, n, k1, k2, _⟩
    · exact .base (.tup s)
    · exact .fTuple s
    · exact .kTuple k1 k2
  cases a with
  | bl b => cases (show x = .bl b from h.1); cases (show some "bool" = some t from e); exact .base (.bl b)
  | int b => cases (show x = .int b from h.1); cases (show some "int" = some t from e); exact .base (.int b)
  | str b => cases (show x = .str b from h.1); cases (show some "str" = some t from e); exact .base (.str b)
  | tup ds =>
    cases (show some "tuple" = some t from e)
    obtain ⟨⟨a, vs, rfl, h1, h2⟩, _⟩ := h
    exact T (sqT_same sm h1)
  | cst ds =>
    cases (show some "list" = some t from e)
    obtain ⟨p, vs, g, rfl, h1, h2⟩ := lst_of sm h rfl
    exact L h1
  | lst m ds =>
    cases (show some "list" = some t from e)
    obtain ⟨p, vs, g, rfl, h1, h2⟩ := lst_of sm h rfl
    exact L h1
  | _ => cases e
theorem sIsi : CallS K (rIsi K) gIsi := by
  intro ca F H xs as d f1 Q sm hx e q
  unfold gIsi at e
  split at e
  · rename_i a u
    obtain ⟨x, y, g, g', rfl, h, h'⟩ := repOs2 hx
    cases (show y = .ty u from h'.1)
    split at e
    · rename_i t et
      by_cases c : t ∈ ["bool", "int", "str", "tuple", "list"] ∧ u ∈ ["bool", "int", "str", "tuple", "list"]
      · rw [if_pos c] at e
        cases e
        exact ⟨x, .ty u, _, _, _, rfl, .ty u, ty_of sm h et, kitOne_isi c.1 c.2, q (.bl _) _ (Rep.o (d := .bl _) rfl)⟩
      · rw [if_neg c] at e; cases e
    · cases e
  · cases e

/-! ### in -/
def flatD : D → Bool
  | .non => true | .bl _ => true | .int _ => true | .str _ => true | _ => false
def toV : D → V
  | .non => .non | .bl b => .bl b | .int i => .int i | .str s => .str s | _ => .non
theorem flat_of {ca : Str → Addr} {F H : Hp} {a : D} {x : V} {f : Ct} (h : RepO K ca F H a x f) (e : flatD a = true) : x = toV a ∧ flatV x = true := by
  cases a with
  | non => cases (show x = .non from h.1); exact ⟨rfl, rfl⟩
  | bl b => cases (show x = .bl b from h.1); exact ⟨rfl, rfl⟩
  | int b => cases (show x = .int b from h.1); exact ⟨rfl, rfl⟩
  | str b => cases (show x = .str b from h.1); exact ⟨rfl, rfl⟩
  | _ => cases e
theorem flats_of {ca : Str → Addr} {F H : Hp} : ∀ {ds : List D} {vs : List V} {f : Ct}, RepOs K ca F H ds vs f → ds.all flatD = true → vs = ds.map toV ∧ vs.all flatV = true
  | [], vs, f, h, e => by cases (show vs = [] from h.1); exact ⟨rfl, rfl⟩
  | d :: ds, vs, f, ⟨v, r, f1, f2, h1, h2, h3, _⟩, e => by
    rw [List.all_cons, Bool.and_eq_true] at e
    obtain ⟨k1, k2⟩ := flat_of h2 e.1
    obtain ⟨k3, k4⟩ := flats_of h3 e.2
    subst h1
    refine ⟨by rw [List.map_cons, ← k1, ← k3], ?_⟩
    rw [List.all_cons, k2, k4]; rfl
def gIn (neg : Bool) (a b : D) : Option D := match itemsD b with
  | some xs => if flatD a = true ∧ xs.all flatD = true then some (.bl (if neg then !inV (toV a) (xs.map toV) else inV (toV a) (xs.map toV))) else none
  | none => none
theorem sIn {neg : Bool} : OpS K (rIn K neg) (gIn neg) := by
  intro ca F H x y a b d f1 f2 Q sm hx hy e q
  unfold gIn at e
  cases ei : itemsD b with
  | none => rw [ei] at e; cases e
  | some xs =>
    rw [ei] at e
    by_cases c : flatD a = true ∧ xs.all flatD = true
    · simp only [c, and_self, if_true] at e
      cases e
      obtain ⟨p, vs, g, rfl, h1, h2⟩ := seq_of sm hy ei
      obtain ⟨k1, k2⟩ := flat_of hx c.1
      obtain ⟨k3, k4⟩ := flats_of h2 c.2
      refine ⟨p, vs, rfl, h1, k2, k4, ?_⟩
      rw [k1, k3]
      exact q (.bl _) _ (Rep.o (d := .bl _) rfl)
    · simp only [c, if_false] at e; cases e
/-- a sign in a text -/
def gInS (neg : Bool) (a b : D) : Option D := match a, b with
  | .str c, .str z => match c.cps.toList with
    | [k] => some (.bl (if neg then !decide (k ∈ z.cps.toList) else decide (k ∈ z.cps.toList)))
    | _ => none
  | _, _ => none
theorem str_one {c : Str} {k : Nat} (h : c.cps.toList = [k]) : c = ⟨#[k]⟩ := by
  cases c with
  | mk cps =>
    have : cps = #[k] := by
      apply Array.toList_inj.mp
      exact h
    rw [this]
theorem sInS : OpS K (fun x y H Q => ∃ (c : Nat) (z : Str), x = .str ⟨#[c]⟩ ∧ y = .str z ∧ Q (.bl (decide (c ∈ z.cps.toList))) H) (gInS false) := by
  intro ca F H x y a b d f1 f2 Q sm hx hy e q
  unfold gInS at e
  split at e
  · rename_i c z
    split at e
    · rename_i k h
      cases e
      exact ⟨k, z, by rw [(show x = .str c from hx.1), str_one h], hy.1, q (.bl _) _ (Rep.o (d := .bl _) rfl)⟩
    · cases e
  · cases e

theorem sNotInS : OpS K (fun x y H Q => ∃ (c : Nat) (z : Str), x = .str ⟨#[c]⟩ ∧ y = .str z ∧ Q (.bl (!decide (c ∈ z.cps.toList))) H) (gInS true) := by
  intro ca F H x y a b d f1 f2 Q sm hx hy e q
  unfold gInS at e
  split at e
  · rename_i c z
    split at e
    · rename_i k h
      cases e
      exact ⟨k, z, by rw [(show x = .str c from hx.1), str_one h], hy.1, q (.bl _) _ (Rep.o (d := .bl _) rfl)⟩
    · cases e
  · cases e

end
end Bn

/-! Append, slices, join, the module's constants. -/
namespace Bn
open PySem PySem.Spec PyProof.Rows L2
section
variable {X : Cx} {B : Bx} {W : WX}
def sApp (i : Nat) (m : ME) : MS := fun τ => match τ.getD i none with
  | some (.lst true _) => (m τ).s fun d τ1 => (match τ1.getD i none with
    | some (.lst true es) => if es.length < 1000000 then .nx (τ1.set i (some (.lst true (es ++ [d])))) else .bad
    | _ => .bad)
  | _ => .bad
theorem s_app {i : Nat} {o e : Expr} {apos cpos pos : Pos} {m : ME} (ho : PE X o (tVar i)) (he : PE X e (rdE X.K B W m))
    (hbase : attributeBase o "append" X.env (eval o X.env) = eval o X.env := by rfl)
    (hfew : ((backTo cpos (starEach [e] X.env)).all (fun x => !x.1) && (backToKw cpos (keywordEach [] X.env)).all (fun x => x.1.isSome)
      && decide ([e].length + ([] : List Keyword).length + (if ([] : List Keyword).isEmpty then 0 else 1) < 30)) = true := by rfl)
    (hline : (apos.endLine == cpos.line) = true := by rfl) (hs : starEach [e] X.env = (false, eval e X.env) :: starEach [] X.env := by rfl) (hplain : (backTo cpos (starEach [] X.env)).any (·.1) = false := by rfl)
    (hsw : swapsWith (.Call (.Attribute o "append" apos) [e] [] cpos) none pos.line X.env = pure false := by rfl) : PS X (.Expr (.Call (.Attribute o "append" apos) [e] [] cpos) pos) (rdS X.K B W (sApp i m)) :=
  PS.imp (ps_expr (pe_bm PySem.F.plainAttrs_list PySem.F.slot_list_append PySem.F.type_list_append mt_append ho (pa_cons he pa_nil hs) hbase hfew hline hs hplain) hsw) fun D σ H ⟨F, τ, vs, ds, s, p⟩ => by
    unfold sApp at p
    split at p
    · rename_i es0 e0
      obtain ⟨v, f, h1, a, us, g, rfl, h2, _⟩ := s.get (getD_some e0)
      refine ⟨.ref a, h1, .inl ⟨rfl, us, sqOf h2⟩, F, τ, vs, ds, s, post_imp (post_s (σ := σ) p) (fun d τ1 q y F1 H1 s1 => ?_) fun _ _ q => q⟩
      split at q
      · rename_i es e1
        have e1' := getD_some e1
        obtain ⟨v, k1, s2⟩ := s1.take e1'
        rw [h1] at k1
        cases k1
        by_cases hl : es.length < 1000000
        · rw [if_pos hl] at q
          obtain ⟨f, a', us', g, ea, hx, hg, _⟩ := s2.top
          cases ea
          refine ⟨a, us', y, rfl, rfl, hx, by rw [hg.length, sizeLine_eq]; omega, ?_⟩
          have s3 := s2.change (us := [y]) (ds := [d]) (ys := us' ++ [y]) (es2 := es ++ [d]) rfl hx fun g1 g2 r1 r2 => ⟨_, r1.append r2, fun b => Nat.le_refl _⟩
          have s4 := s3.putBack (i := i) (by rw [List.length_set]; exact (List.getElem?_eq_some_iff.mp e1').1) h1
          rw [List.set_set] at s4
          exact q σ F1 _ s4
        · rw [if_neg hl] at q; exact q.elim
      · exact q.elim
    · exact p.elim

/-! ### slices -/
def rdP (K : PySem.W.Frag) (B : Bx) (W : WX) (p : Env → R (Option Int)) : TO := fun σ H Q => ∃ F τ vs ds, StT K B F H σ τ vs ds ∧ post (fun o τ' => ∀ F' H', StT K B F' H' σ τ' vs ds → Q o H') (exW K B W σ vs ds) (p τ)
theorem PO.imp {e : Option Expr} {t t' : TO} (h : PO X e t) (k : ∀ σ H Q, t' σ H Q → t σ H Q) : PO X e t' := ⟨fun p s σ H Q I q => h.run p s σ H Q I (k _ _ _ q)⟩
def pNone : Env → R (Option Int) := fun τ => .ok none τ
def pSome (m : ME) : Env → R (Option Int) := fun τ => (m τ).bind fun d τ1 => match d with
  | .int i => .ok (some i) τ1
  | _ => .bad
theorem pe_none : PO X none (rdP X.K B W pNone) := PO.imp po_none fun σ H Q ⟨F, τ, vs, ds, s, k⟩ => k F H s
theorem pe_some {e : Expr} {m : ME} (h : PE X e (rdE X.K B W m)) : PO X (some e) (rdP X.K B W (pSome m)) := PO.imp (po_some h) fun σ H Q ⟨F, τ, vs, ds, s, k⟩ => by
  refine ⟨F, τ, vs, ds, s, post_imp (post_bind k) (fun d τ1 q v F1 H1 s1 => ?_) fun _ _ q => q⟩
  cases d with
  | int i => exact ⟨i, s1.topF rfl, q F1 H1 s1.pop⟩
  | _ => exact False.elim q
def cutL {α : Type} (xs : List α) (lo hi : Option Int) : List α := (xs.drop (HT.sIx xs.length 0 lo)).take (HT.sIx xs.length xs.length hi - HT.sIx xs.length 0 lo)
theorem RepL.drop {K : PySem.W.Frag} {ca : Str → Addr} {F : Hp} : ∀ {ds : List D} {vs : List V} (n : Nat), RepL K ca F ds vs → RepL K ca F (ds.drop n) (vs.drop n)
  | [], vs, n, h => by cases (show vs = [] from h); simp; exact rfl
  | d :: ds, vs, 0, h => h
  | d :: ds, _, n + 1, ⟨v, r, h1, h2, h3⟩ => by subst h1; exact h3.drop n
theorem RepL.take {K : PySem.W.Frag} {ca : Str → Addr} {F : Hp} : ∀ {ds : List D} {vs : List V} (n : Nat), RepL K ca F ds vs → RepL K ca F (ds.take n) (vs.take n)
  | [], vs, n, h => by cases (show vs = [] from h); simp; exact rfl
  | d :: ds, vs, 0, h => rfl
  | d :: ds, _, n + 1, ⟨v, r, h1, h2, h3⟩ => by subst h1; exact ⟨v, r.take n, rfl, h2, h3.take n⟩
theorem RepL.cut {K : PySem.W.Frag} {ca : Str → Addr} {F : Hp} {ds : List D} {vs : List V} (h : RepL K ca F ds vs) (lo hi : Option Int) : RepL K ca F (cutL ds lo hi) (cutV vs lo hi) := by
  unfold cutL cutV
  rw [h.length]
  exact (h.drop _).take _
def slR (d : D) (p r : Env → R (Option Int)) (f : D → Option Int → Option Int → Option D) (τ : Env) : R D := (p τ).bind fun lo τ1 => (r τ1).bind fun hi τ2 => match f d lo hi with
  | some x => .ok x τ2
  | none => .bad
def cutLd (d : D) (lo hi : Option Int) : Option D := match d with
  | .lst _ es => some (.lst true (cutL es lo hi))
  | .cst es => some (.lst true (cutL es lo hi))
  | _ => none
def cutSd (d : D) (lo hi : Option Int) : Option D := match d with
  | .str z => if z.length ≤ 1000000 then some (.str (cutS z lo hi)) else none
  | _ => none
def cutTd (d : D) (lo hi : Option Int) : Option D := match d with
  | .tup es => if HT.sIx es.length 0 lo = 0 ∧ HT.sIx es.length es.length hi = es.length then none else some (.tup (cutL es lo hi))
  | _ => none
def eSlice (f : D → Option Int → Option Int → Option D) (m : ME) (p r : Env → R (Option Int)) : ME := fun τ => (m τ).bind fun d τ1 => slR (freeze d) p r f τ1
theorem e_slice {e : Expr} {lo hi : Option Expr} {p2 pos : Pos} {m : ME} {p r : Env → R (Option Int)} {rd : V → Option Int → Option Int → Hp → VK → Prop} {f : D → Option Int → Option Int → Option D} (hr : SlR X rd)
    (hf : ∀ {F H σ τ v vs d ds l h x Q}, isFz d = true → f d l h = some x → StT X.K B F H σ τ (v :: vs) (d :: ds) → (∀ u F' H', StT X.K B F' H' σ τ (u :: vs) (x :: ds) → Q u H') → rd v l h H Q)
    (he : PE X e (rdE X.K B W m)) (hl : PO X lo (rdP X.K B W p)) (hu : PO X hi (rdP X.K B W r)) : PE X (.Subscript e (.Slice lo hi none p2) pos) (rdE X.K B W (eSlice f m p r)) :=
  PE.imp (pe_slice hr he hl hu) fun σ H Q ⟨F, τ, vs, ds, s, k⟩ => by
    refine ⟨F, τ, vs, ds, s, post_imp (post_bind k) (fun d τ1 q v F1 H1 s1 => ?_) fun _ _ q => q⟩
    obtain ⟨F2, s2⟩ := s1.freeze1
    refine ⟨F2, τ1, _, _, s2, post_imp (post_bind q) (fun l τ2 q F3 H3 s3 => ?_) fun c τ2 q F3 H3 s3 => q F3 H3 s3.pop⟩
    refine ⟨F3, τ2, _, _, s3, post_imp (post_bind q) (fun h τ3 q F4 H4 s4 => ?_) fun c τ2 q F3 H3 s3 => q F3 H3 s3.pop⟩
    cases ef : f (freeze d) l h with
    | none => rw [ef] at q; exact False.elim q
    | some x =>
      rw [ef] at q
      exact hf (freeze_fz d) ef s4 q
theorem e_sliceL {e : Expr} {lo hi : Option Expr} {p2 pos : Pos} {m : ME} {p r : Env → R (Option Int)} (he : PE X e (rdE X.K B W m)) (hl : PO X lo (rdP X.K B W p)) (hu : PO X hi (rdP X.K B W r)) : PE X (.Subscript e (.Slice lo hi none p2) pos) (rdE X.K B W (eSlice cutLd m p r)) :=
  e_slice sl_list (fun {F H σ τ v vs d ds l h x Q} z e s k => by
    cases d with
    | lst b es =>
      cases b with
      | true => cases z
      | false =>
        cases (show some (D.lst true (cutL es l h)) = some x from e)
        obtain ⟨a, us, ev, h1, h2⟩ := s.topF rfl
        subst ev
        exact ⟨a, us, rfl, sqOf (s.same _ _ h1), fun np hnp => k _ _ _ (((s.pop).pushL (h2.cut l h)).newLst (h2.cut l h).length hnp)⟩
    | cst es =>
      cases (show some (D.lst true (cutL es l h)) = some x from e)
      obtain ⟨a, us, ev, h1, h2⟩ := s.topF rfl
      subst ev
      exact ⟨a, us, rfl, s.same.seq h1, fun np hnp => k _ _ _ (((s.pop).pushL (h2.cut l h)).newLst (h2.cut l h).length hnp)⟩
    | _ => cases e) he hl hu
theorem e_sliceS {e : Expr} {lo hi : Option Expr} {p2 pos : Pos} {m : ME} {p r : Env → R (Option Int)} (he : PE X e (rdE X.K B W m)) (hl : PO X lo (rdP X.K B W p)) (hu : PO X hi (rdP X.K B W r)) : PE X (.Subscript e (.Slice lo hi none p2) pos) (rdE X.K B W (eSlice cutSd m p r)) :=
  e_slice sl_str (fun {F H σ τ v vs d ds l h x Q} z e s k => by
    cases d with
    | str zz =>
      by_cases hz : zz.length ≤ 1000000
      · have e' : (if zz.length ≤ 1000000 then some (D.str (cutS zz l h)) else none) = some x := e
        rw [if_pos hz] at e'
        cases e'
        exact ⟨zz, s.topF rfl, le_sizeLine hz, k _ _ _ (s.pop.push (d := .str _) rfl)⟩
      · have e' : (if zz.length ≤ 1000000 then some (D.str (cutS zz l h)) else none) = some x := e
        rw [if_neg hz] at e'; cases e'
    | _ => cases e) he hl hu
theorem e_sliceT {e : Expr} {lo hi : Option Expr} {p2 pos : Pos} {m : ME} {p r : Env → R (Option Int)} (he : PE X e (rdE X.K B W m)) (hl : PO X lo (rdP X.K B W p)) (hu : PO X hi (rdP X.K B W r)) : PE X (.Subscript e (.Slice lo hi none p2) pos) (rdE X.K B W (eSlice cutTd m p r)) :=
  e_slice sl_tup (fun {F H σ τ v vs d ds l h x Q} z e s k => by
    cases d with
    | tup es =>
      by_cases hw : HT.sIx es.length 0 l = 0 ∧ HT.sIx es.length es.length h = es.length
      · have e' : (if HT.sIx es.length 0 l = 0 ∧ HT.sIx es.length es.length h = es.length then none else some (D.tup (cutL es l h))) = some x := e
        rw [if_pos hw] at e'; cases e'
      · have e' : (if HT.sIx es.length 0 l = 0 ∧ HT.sIx es.length es.length h = es.length then none else some (D.tup (cutL es l h))) = some x := e
        rw [if_neg hw] at e'
        cases e'
        obtain ⟨a, us, ev, h1, h2⟩ := s.topF rfl
        subst ev
        exact ⟨a, us, rfl, sqT_same s.same h1, by rw [h2.length]; exact hw, fun np hnp => k _ _ _ (s.pop.newTup hnp (h2.cut l h))⟩
    | _ => cases e) he hl hu

/-! ### join -/
def strsOf : List D → Option (List Str)
  | [] => some []
  | .str i :: r => (strsOf r).map (i :: ·)
  | _ => none
theorem strs_map : ∀ ns : List Str, strsOf (ns.map D.str) = some ns
  | [] => rfl
  | i :: r => by show (strsOf (r.map D.str)).map (i :: ·) = _; rw [strs_map r]; rfl
theorem repOs_strs {K : PySem.W.Frag} {ca : Str → Addr} {F H : Hp} : ∀ {ds : List D} {vs : List V} {f : Ct} {ns : List Str}, RepOs K ca F H ds vs f → strsOf ds = some ns → vs = ns.map V.str
  | [], vs, f, ns, h, e => by
    cases (show some [] = some ns from e)
    exact h.1
  | d :: r, vs, f, ns, h, e => by
    obtain ⟨v, r', f1, f2, h1, h2, h3, _⟩ := h
    cases d with
    | str i =>
      have e' : (strsOf r).map (i :: ·) = some ns := e
      cases e2 : strsOf r with
      | none => rw [e2] at e'; cases e'
      | some ms =>
        rw [e2] at e'
        cases (show some (i :: ms) = some ns from e')
        rw [h1, repOs_strs h3 e2, (show v = .str i from h2.1)]
        rfl
    | _ => cases e
def eJoin (a b : ME) : ME := fun τ => (a τ).bind fun x τ1 => match x with
  | .str z => (b τ1).bind fun y τ2 => (match (itemsD y).bind strsOf with
    | some ys => if (ys.map (·.length)).sum + ys.length * z.length ≤ 1000000 then .ok (.str (Txt.join z ys)) τ2 else .bad
    | none => .bad)
  | _ => .bad
theorem e_join {o e : Expr} {apos pos : Pos} {a b : ME} (ho : PE X o (rdE X.K B W a)) (he : PE X e (rdE X.K B W b)) (hs : starEach [e] X.env = [(false, eval e X.env)] := by rfl) (hbase : attributeBase o "join" X.env (eval o X.env) = eval o X.env := by rfl) (hline : (apos.endLine == pos.line) = true := by rfl) :
    PE X (.Call (.Attribute o "join" apos) [e] [] pos) (rdE X.K B W (eJoin a b)) := PE.imp (pe_join ho he hs hbase hline) fun σ H Q ⟨F, τ, vs, ds, s, k⟩ => by
  refine ⟨F, τ, vs, ds, s, post_imp (post_bind k) (fun d τ1 q v F1 H1 s1 => ?_) fun _ _ q => q⟩
  cases d with
  | str z =>
    refine ⟨⟨z, s1.topF rfl⟩, F1, τ1, _, _, s1, post_imp (post_bind q) (fun d τ2 q w F2 H2 s2 => ?_) fun c τ2 q F2 H2 s2 => q F2 H2 s2.pop⟩
    split at q
    · rename_i ys ey
      obtain ⟨es, e1, e2⟩ := bind_some ey
      obtain ⟨f, hw⟩ := s2.top
      obtain ⟨p, us, g, rfl, h1, h2⟩ := seq_of s2.same hw e1
      by_cases hz : (ys.map (·.length)).sum + ys.length * z.length ≤ 1000000
      · rw [if_pos hz] at q
        refine ⟨z, p, ys, s1.topF rfl, rfl, by rw [← repOs_strs h2 e2]; exact h1, by omega, q _ _ _ (s2.pop.pop.push (d := .str _) rfl)⟩
      · rw [if_neg hz] at q; exact False.elim q
    · exact False.elim q
  | _ => exact False.elim q

/-! ### the module's constants -/
structure Kc (K : PySem.W.Frag) (mg : Str → Option Value) (x : Str) (d : D) : Prop where
  ex : ∃ v u, mg x = some u ∧ RelV v u ∧ ∀ ca F, Rep K ca F d v
theorem z_k {x : Str} {d : D} {pos : Pos} (k : Kc X.K X.mg x d) (hg : Gl X x) (hd : (x == ("__debug__" : Str)) = false := by decide) : PE X (.Name x pos) (rdZ X.K B (zC d)) := by
  obtain ⟨v, u, h1, h2, h3⟩ := k.ex
  exact z_c (pe_glob hg h1 h2 hd) fun F => h3 _ F
theorem kc_str {K : PySem.W.Frag} {mg : Str → Option Value} {x s : Str} {t : Tok} (h : mg x = some (.str s t)) : Kc K mg x (.str s) := ⟨.str s, _, h, ⟨t, rfl⟩, fun _ _ => rfl⟩
theorem kc_int {K : PySem.W.Frag} {mg : Str → Option Value} {x : Str} {s : Int} {t : Tok} (h : mg x = some (.int s t)) : Kc K mg x (.int s) := ⟨.int s, _, h, ⟨t, rfl⟩, fun _ _ => rfl⟩
/-- a tuple of texts -/
theorem repL_strs {K : PySem.W.Frag} {ca : Str → Addr} {F : Hp} : ∀ ss : List Str, RepL K ca F (ss.map D.str) (ss.map V.str)
  | [] => rfl
  | s :: r => ⟨.str s, r.map V.str, rfl, rfl, repL_strs r⟩
theorem kc_tupS {K : PySem.W.Frag} {mg : Str → Option Value} {x : Str} {a : Addr} {ss : List Str} (h : mg x = some (.ref a)) (hs : ∀ H, SqT K H a (ss.map V.str)) : Kc K mg x (.tup (ss.map D.str)) := ⟨.ref a, _, h, rfl, fun ca F => ⟨a, _, rfl, hs F, repL_strs ss⟩⟩
end
end Bn

/-! try .. except X as e: a suite that asks isinstance of e. -/
namespace Bn
open PySem PySem.Spec PyProof.Rows L2
abbrev Bx.withE (B : Bx) (i : Nat) (a : Addr) : Bx := { B with io := (i, .ref a) :: B.io }
theorem ioE {B : Bx} {i j : Nat} {a : Addr} (h : i ≠ j) (k : ioFree B j := by intro p hp; cases hp) : ioFree (B.withE i a) j := fun p hp => by
  rcases List.mem_cons.mp hp with rfl | hp
  · exact h
  · exact k p hp
def endAs (i : Nat) (r : SR) : SR := match r with
  | .nx τ => .nx (τ.set i none)
  | .rt d τ => .rt d τ
  | .bk τ => .bk (τ.set i none)
  | .ct τ => .ct (τ.set i none)
  | _ => .bad
def tryAs (i : Nat) (o : Option Bool) (c : Str) (τ : Env) (su : Str → MS) : SR := match o with
  | some true => if i < τ.length then endAs i (su c (τ.set i none)) else .bad
  | some false => .ex c τ
  | none => .bad
def sTryAs (i : Nat) (sub : Str → Option Bool) (b : MS) (su : Str → MS) : MS := fun τ => match b τ with
  | .ex c τ' => tryAs i (sub c) c τ' su
  | .nx τ' => .nx τ'
  | .rt d τ' => .rt d τ'
  | .bk τ' => .bk τ'
  | .ct τ' => .ct τ'
  | .bad => .bad
section
variable {X : Cx} {B : Bx} {W : WX}
theorem StT.withE {K : PySem.W.Frag} {F H : Hp} {σ : L2.St} {τ : Env} {vs : List V} {ds : List D} {i : Nat} {a : Addr} (s : StT K B F H σ τ vs ds) (hi : i < τ.length) (hf : ioFree B i) : StT K (B.withE i a) F H (σ.set i (some (.ref a))) (τ.set i none) vs ds := by
  have s1 := s.forget (i := i)
  have io : IoOk B σ := by obtain ⟨_, _, _, _, _, io⟩ := s; exact io
  have hl : σ.length = τ.length := by obtain ⟨_, _, A, _⟩ := s; exact A.length
  have s2 : StT K B F H (σ.set i (some (.ref a))) (τ.set i none) vs ds := s1.reset (by simp) (fun j d h => by
    have : j ≠ i := fun e => by
      subst e
      rw [List.getElem?_set_self hi] at h; cases h
    rw [List.getElem?_set_ne this.symm]) fun p hp => by rw [List.getElem?_set_ne (fun e => hf p hp e.symm)]; exact io p hp
  obtain ⟨f1, f2, A, b, w, io2⟩ := s2
  refine ⟨f1, f2, A, b, ⟨w.nd, w.dF, w.dR, w.sF, w.sR, w.s0, w.fr⟩, fun p hp => ?_⟩
  rcases List.mem_cons.mp hp with rfl | hp
  · rw [List.getElem?_set_self (by omega)]
  · exact io2 p hp
theorem StT.outE {K : PySem.W.Frag} {F H : Hp} {σ : L2.St} {τ : Env} {vs : List V} {ds : List D} {i : Nat} {a : Addr} (s : StT K (B.withE i a) F H σ τ vs ds) : StT K B F H σ τ vs ds := by
  obtain ⟨f1, f2, A, b, w, io2⟩ := s
  exact ⟨f1, f2, A, b, ⟨w.nd, w.dF, w.dR, w.sF, w.sR, w.s0, w.fr⟩, fun p hp => io2 p (List.mem_cons_of_mem _ hp)⟩
theorem StT.clearE {K : PySem.W.Frag} {F H : Hp} {σ : L2.St} {τ : Env} {vs : List V} {ds : List D} {i : Nat} (s : StT K B F H σ τ vs ds) (hf : ioFree B i) : StT K B F H (σ.set i none) (τ.set i none) vs ds := by
  have s1 := s.forget (i := i)
  have io : IoOk B σ := by obtain ⟨_, _, _, _, _, io⟩ := s; exact io
  have hl : σ.length = τ.length := by obtain ⟨_, _, A, _⟩ := s; exact A.length
  exact s1.reset (by simp) (fun j d h => by
    have : j ≠ i := fun e => by
      subst e
      by_cases hj : j < τ.length
      · rw [List.getElem?_set_self hj] at h; cases h
      · rw [List.getElem?_eq_none (by simp; omega)] at h; cases h
    rw [List.getElem?_set_ne this.symm]) fun p hp => by rw [List.getElem?_set_ne (fun e => hf p hp e.symm)]; exact io p hp
theorem s_tryAs {i : Nat} {x n : Str} {cv : Value} {body suite : List Stmt} {b₀ : Stmt} {np pos pos' : Pos} {b : MS} {su : Str → MS} (c : XOk X W) (hN : X.N.Nodup) (hi : X.N[i]? = some n) (hln : X.env.kindOf n = some .local) (sub : Str → Option Bool) (hn : Names X x cv) (hsub : ∀ y t, sub y = some t → PySem.W.exmOne X.K (.ref (B.ca y)) cv = some t) (hs : X.stack = X.env :: X.outer) (hf : X.env.frame = some X.env.locals)
    (hb : ∀ (W' : WX) (pn : List (Addr × Obj)) (xe : Value → Shared → Prop), XOk (X.tr pn xe) W' → PSs (X.tr pn xe) body (rdS X.K B W' b))
    (hsu : ∀ (a : Addr) (oe : Obj) (y : Str) (pn : List (Addr × Obj)), Zc (.ref (B.ca y)) none oe → (∃ vs, oe.data = .fields vs) → PSs (X.suite a ((a, oe) :: pn)) (b₀ :: suite) (rdS X.K (B.withE i a) W0 (su y))) (hio : ioFree B i := by intro p hp; cases hp) :
    PS X (.Try body [.ExceptHandler (some (.Name x np)) (some n) (b₀ :: suite) pos'] [] [] pos) (rdS X.K B W (sTryAs i sub b su)) :=
  PS.imp (ps_try_as (tb := fun W' => rdS X.K B W' b) (ts := fun a cls d => fun D σ H => ∃ y, cls = .ref (B.ca y) ∧ d = none ∧ rdS X.K (B.withE i a) W0 (su y) D σ H) hs hf hN hi hln hn c.tk (fun W' pn xe tk hp => hb W' pn xe ⟨tk, hp, c.calm⟩)
    fun a oe cls d pn hz hv => ⟨fun pins s σ H D I h => by
      obtain ⟨y, rfl, rfl, h⟩ := h
      exact (hsu a oe y pn hz hv).run pins s σ H D I h⟩) fun D σ H ⟨F, τ, vs, ds, s, p⟩ => by
    refine ⟨F, τ, vs, ds, s, ?_⟩
    unfold sTryAs at p
    cases e : b τ with
    | ex y τ' =>
      rw [e] at p
      intro σ' F' H' s'
      cases es : sub y with
      | none => simp only [es, tryAs] at p; exact p.elim
      | some t =>
        simp only [es] at p
        refine ⟨t, hsub y t es, fun ht a ha => ?_, fun ht => ?_⟩
        · subst ht
          by_cases hl : i < τ'.length
          · simp only [tryAs, hl, if_true] at p
            refine ⟨y, rfl, rfl, F', _, vs, ds, s'.withE hl hio, ?_⟩
            cases e2 : su y (τ'.set i none) with
            | nx τ2 => rw [e2] at p; exact fun σ2 F2 H2 s2 => p _ F2 H2 (s2.outE.clearE hio)
            | rt d τ2 => rw [e2] at p; exact fun v σ2 F2 H2 s2 => p v σ2 F2 H2 s2.outE
            | bk τ2 => rw [e2] at p; exact fun σ2 F2 H2 s2 => p _ F2 H2 (s2.outE.clearE hio)
            | ct τ2 => rw [e2] at p; exact fun σ2 F2 H2 s2 => p _ F2 H2 (s2.outE.clearE hio)
            | ex c2 τ2 => rw [e2] at p; exact p.elim
            | bad => rw [e2] at p; exact p.elim
          · simp only [tryAs, hl, if_false] at p; exact p.elim
        · subst ht; exact p σ' F' H' s'
    | _ => rw [e] at p; exact p
def eIs (o : Option Bool) : ME := fun τ => match o with
  | some b => .ok (.bl b) τ
  | none => .bad
theorem e_isE {i : Nat} {a : Addr} {oe : Obj} {pn : List (Addr × Obj)} {y : Str} {n A : Str} {vA : V} {cvA : Value} {o : Option Bool} {p p1 p2 pos : Pos} (hz : Zc (.ref (B.ca y)) none oe) (hv : ∃ vs, oe.data = .fields vs)
    (he : PE (X.suite a ((a, oe) :: pn)) (.Name n p1) (tVar i)) (hA : PE (X.suite a ((a, oe) :: pn)) (.Name A p2) (tC vA)) (hcv : ∀ u, RelV vA u → u = cvA) (hC : ∀ t, o = some t → ExcC X.K (B.ca y) ∧ PySem.W.kitOne X.K (.ref (B.ca y)) cvA = some t)
    (hg : Gl (X.suite a ((a, oe) :: pn)) "isinstance") (hm : X.mg "isinstance" = none)
    (hs1 : starEach [.Name n p1, .Name A p2] (X.suite a ((a, oe) :: pn)).env = (false, eval (.Name n p1) (X.suite a ((a, oe) :: pn)).env) :: starEach [.Name A p2] (X.suite a ((a, oe) :: pn)).env := by rfl)
    (hs2 : starEach [.Name A p2] (X.suite a ((a, oe) :: pn)).env = (false, eval (.Name A p2) (X.suite a ((a, oe) :: pn)).env) :: starEach [] (X.suite a ((a, oe) :: pn)).env := by rfl)
    (hpl : (backTo pos (starEach [.Name A p2] (X.suite a ((a, oe) :: pn)).env)).any (·.1) = false := by rfl) :
    PE (X.suite a ((a, oe) :: pn)) (.Call (.Name "isinstance" p) [.Name n p1, .Name A p2] [] pos) (rdE X.K (B.withE i a) W0 (eIs o)) := by
  cases o with
  | none => exact ⟨fun _ _ _ _ _ _ ⟨F, τ, vs, ds, s, h⟩ => False.elim h⟩
  | some t =>
    obtain ⟨C, hk⟩ := hC t rfl
    refine PE.imp (pe_callB (call_isE C hz hv) hg hm (by decide +kernel) (pa_cons he (pa_cons hA pa_nil hs2) hs1) (by decide) (by decide) hs1 hpl) fun σ H Q ⟨F, τ, vs, ds, s, h⟩ => ?_
    have io : IoOk (B.withE i a) σ := by obtain ⟨_, _, _, _, _, io⟩ := s; exact io
    exact ⟨.ref a, io (i, .ref a) List.mem_cons_self, vA, cvA, t, rfl, hcv, hk, h (.bl t) F H (s.push (d := .bl t) rfl)⟩
end
theorem kit_same {K : PySem.W.Frag} {a : Addr} : PySem.W.kitOne K (.ref a) (.ref a) = some true := by
  unfold PySem.W.kitOne
  rw [if_pos (by simp)]
theorem kit_type {K : PySem.W.Frag} {a : Addr} {T : String} {b : Bool} (hm : PySem.W.kitMeta T = true) (h : PySem.W.subIn K (.ref a) (.type T) = some b) : PySem.W.kitOne K (.ref a) (.type T) = some b := by
  unfold PySem.W.kitOne
  rw [if_neg (by intro z; cases z)]
  unfold PySem.W.kitCls
  simp only [hm, if_true]
  exact h
theorem kit_ref {K : PySem.W.Frag} {a x : Addr} {b : Bool} (h1 : PySem.W.hasDictIn K x = true) (ht : PySem.W.typeIn K (.ref x) = some (.type "type")) (h4 : PySem.W.subIn K (.ref a) (.ref x) = some b) (hb : b = true ∨ (a == x) = false) : PySem.W.kitOne K (.ref a) (.ref x) = some b := by
  obtain ⟨cd, hc, _⟩ := PySem.W.any_some h1
  have e2 : ((PySem.W.clsIn K x).isSome && PySem.W.typeIn K (.ref x) == some (.type "type")) = true := by rw [hc, ht] <;> rfl
  unfold PySem.W.kitOne
  by_cases e : a = x
  · subst e
    rw [if_pos (by simp)]
    rcases hb with rfl | hb
    · rfl
    · simp at hb
  · rw [if_neg (by simp; exact e)]
    show (if ((PySem.W.clsIn K x).isSome && PySem.W.typeIn K (.ref x) == some (.type "type")) = true then PySem.W.subIn K (.ref a) (.ref x) else none) = some b
    rw [if_pos e2]
    exact h4
theorem exm_type {K : PySem.W.Frag} {a : Addr} {T : String} {b : Bool} (h1 : PySem.W.subIn K (.type T) (.type "BaseException") = some true) (hm : PySem.W.kitMeta T = true) (h : PySem.W.subIn K (.ref a) (.type T) = some b) : PySem.W.exmOne K (.ref a) (.type T) = some b := by
  unfold PySem.W.exmOne
  rw [if_pos (by rw [h1]; rfl)]
  unfold PySem.W.kitCls
  simp only [hm, if_true]
  exact h
end Bn
namespace Bn
open PySem PySem.Spec PyProof.Rows L2
/-- list(xs): a new list -/
def eLstOf (m : MA) : ME := fun τ => (m τ).bind fun ds τ1 => match freezeL ds with
  | [.lst _ es] => .ok (.lst true es) τ1
  | [.tup es] => .ok (.lst true es) τ1
  | _ => .bad
theorem e_lstOf {X : Cx} {B : Bx} {W : WX} {x : Str} {p pos : Pos} {e : Expr} {m : MA} (hg : Gl X x) (hm : X.mg x = none) (hv : bootBuiltins x = some (.type "list")) (ha : PA X [e] (rdA X.K B W m)) (hn : x ≠ "__name__" := by decide) (hdb : (x == ("__debug__" : Str)) = false := by decide)
    (he : starEach [e] X.env = (false, eval e X.env) :: starEach [] X.env := by rfl) (hpl : (backTo pos (starEach [] X.env)).any (·.1) = false := by rfl) : PE X (.Call (.Name x p) [e] [] pos) (rdE X.K B W (eLstOf m)) := PE.imp (pe_callTy call_list_of hg hm hv ha hn hdb he hpl) fun σ H Q ⟨F, τ, vs, ds, s, p⟩ => by
  refine ⟨F, τ, vs, ds, s, post_imp (post_bind p) (fun es τ1 q us F1 H1 hl s1 => ?_) fun _ _ q => q⟩
  obtain ⟨F2, sm, rl, s2⟩ := s1.freeze hl
  match h : freezeL es, q, rl with
  | [.lst b xs], q, rl =>
    obtain ⟨v, r, rfl, r1, r2⟩ := rl
    cases (show r = [] from r2)
    cases b with
    | true => exact r1.elim
    | false =>
      obtain ⟨a, ws, rfl, h1, h2⟩ := r1
      exact ⟨a, ws, rfl, .inl (sqOf (s2.same _ _ h1)), fun l hl => q _ _ _ ((s2.pushL h2).newLst h2.length hl)⟩
  | [.tup xs], q, rl =>
    obtain ⟨v, r, rfl, r1, r2⟩ := rl
    cases (show r = [] from r2)
    obtain ⟨a, ws, rfl, h1, h2⟩ := r1
    exact ⟨a, ws, rfl, .inr (sqT_same s2.same h1), fun l hl => q _ _ _ ((s2.pushL h2).newLst h2.length hl)⟩
end Bn

/-! Objects of own classes that never change once they are made; lists joined. -/
namespace Bn
open PySem PySem.Spec PyProof.Rows L2
theorem upd_upd {H : Hp} {a : Addr} {x y : HO} : upd (upd H a x) a y = upd H a y := by
  funext b
  by_cases h : b = a
  · subst h; rw [upd_same, upd_same]
  · rw [upd_ne h, upd_ne h, upd_ne h]
/-! ### __init__: one attribute after the other -/
def rdIn (K : PySem.W.Frag) (C : Addr) : List (Str × Nat) → TS
  | [] => fun D σ H => D.nx σ H
  | (f, i) :: r => fun D σ H => ∃ a dx fs y, σ[0]? = some (some (V.ref a)) ∧ σ[i]? = some (some y) ∧ H a = some (.ins C dx fs) ∧ NoAttr K C f ∧ fs.length < 1000 ∧ rdIn K C r D σ (upd H a (.ins C dx (putF f y fs)))
section
variable {X : Cx} {C : Addr}
theorem in_nil : PSs X [] (rdIn X.K C []) := PSs.imp pss_nil fun D σ H h => h
theorem in_cons {f : Str} {i : Nat} {o v : Expr} {pos pos' : Pos} {r : List Stmt} {as : List (Str × Nat)} (cl : Cls X.K C) (ho : PE X o (tVar 0)) (hv : PE X v (tVar i)) (hr : PSs X r (rdIn X.K C as)) (hs : swapsWith v (some (.Attribute o f pos')) pos.line X.env = pure false := by rfl) :
    PSs X (.Assign [.Attribute o f pos'] v pos :: r) (rdIn X.K C ((f, i) :: as)) := PSs.imp (pss_cons (ps_fld ho hv hs) hr) fun D σ H h => by
  obtain ⟨a, dx, fs, y, h1, h2, h3, h4, h5, h6⟩ := h
  exact ⟨y, h2, .ref a, h1, a, C, dx, fs, rfl, h3, cl, h4, h5, h6⟩
end
theorem putF_new (f : Str) (v : V) : ∀ fs : List (Str × V), f ∉ fs.map (·.1) → putF f v fs = fs ++ [(f, v)]
  | [], _ => rfl
  | (g, x) :: r, h => by
    have h1 : ¬ g = f := fun e => h (by rw [List.map_cons, e]; exact List.mem_cons_self)
    have h2 : f ∉ r.map (·.1) := fun e => h (by rw [List.map_cons]; exact List.mem_cons_of_mem _ e)
    show (if g = f then (g, v) :: r else (g, x) :: putF f v r) = _
    rw [if_neg h1, putF_new f v r h2]
    rfl
theorem in_run {K : PySem.W.Frag} {C : Addr} {D : Ends} {σ : L2.St} {a dx : Addr} (h0 : σ[0]? = some (some (V.ref a))) : ∀ (ns : List Str) (ws : List V) (k : Nat) (fs : List (Str × V)) (H : Hp), ws.length = ns.length → (∀ i w, ws[i]? = some w → σ[k + i]? = some (some w)) → (∀ n ∈ ns, NoAttr K C n) → (fs.map (·.1) ++ ns).Nodup →
    fs.length + ns.length < 1000 → H a = some (.ins C dx fs) → D.nx σ (upd H a (.ins C dx (fs ++ ns.zip ws))) → rdIn K C (ns.zip (List.range' k ns.length)) D σ H
  | [], ws, k, fs, H, hl, hv, hn, nd, sz, hH, q => by
    cases ws with
    | nil =>
      show D.nx σ H
      have e : upd H a (.ins C dx (fs ++ [])) = H := by
        funext b
        by_cases h : b = a
        · subst h; rw [upd_same, List.append_nil]; exact hH.symm
        · rw [upd_ne h]
      rw [← e]; exact q
    | cons _ _ => simp at hl
  | n :: ns, [], k, fs, H, hl, _, _, _, _, _, _ => by simp at hl
  | n :: ns, w :: ws, k, fs, H, hl, hv, hn, nd, sz, hH, q => by
    have nf : n ∉ fs.map (·.1) := fun h => by
      have := (List.nodup_append.mp nd).2.2 n h n List.mem_cons_self
      exact this rfl
    have e := putF_new n w fs nf
    refine ⟨a, dx, fs, w, h0, by simpa using hv 0 w rfl, hH, hn n List.mem_cons_self, by simp at sz; omega, ?_⟩
    rw [e]
    refine in_run h0 ns ws (k + 1) (fs ++ [(n, w)]) _ (by simpa using hl) (fun i y hy => ?_) (fun m hm => hn m (List.mem_cons_of_mem _ hm)) ?_ (by simp at sz ⊢; omega) upd_same ?_
    · have := hv (i + 1) y (by simpa using hy)
      rw [show k + 1 + i = k + (i + 1) by omega]; exact this
    · rw [List.map_append]
      simpa using nd
    · rw [upd_upd]
      simpa using q
def spI (ca : Str → Addr) (c : Str) (ns : List Str) : Sp := fun vs H Q _ => ∃ a dx ws, vs = .ref a :: ws ∧ ws.length = ns.length ∧ H a = some (.ins (ca c) dx []) ∧ Q .non (upd H a (.ins (ca c) dx (ns.zip ws)))
section
variable {P : Program} {w : World} {K : PySem.W.Frag} {mg : Str → Option Value} {base : Heap} {ca : Str → Addr}
theorem init_ok {x qual : Str} {st : Stmt} {f : Addr} {fd : FuncData} {ps : List Str} {c : Str} {ns : List Str} (F : Fun K x qual st f fd) (S : FnScope ps ps (defScope st)) (hps : ps.length = ns.length + 1) (nd : ns.Nodup) (hn : ∀ n ∈ ns, NoAttr K (ca c) n) (hl : ns.length < 1000)
    (hb : ∀ (cdv : Value) (A : Around) (outer : List PySem.Env) (s : Shared) (H : Hp) (E : XK), PSs (cxOf (L2.CX P w) P w K mg base ps qual (defScope st) f cdv A outer s H E) (defBody st) (rdIn K (ca c) (ns.zip (List.range' 1 ns.length)))) :
    FnOk P w K mg base (L2.CX P w) 1 f fd ps (spI ca c ns) := by
  refine F.okX S (fun vs H Q E h => ?_) (fun cdv A outer s H vs Q E hr h => ?_)
  · obtain ⟨a, dx, ws, rfl, h1, _⟩ := h
    rw [List.length_cons, h1, hps]
  · obtain ⟨a, dx, ws, rfl, h1, h2, q⟩ := h
    refine ⟨_, hb cdv A outer s H E, ?_⟩
    have hlen : ps.length - (V.ref a :: ws).length = 0 := by rw [List.length_cons, hps, h1]; omega
    have e0 : L2.start ps (V.ref a :: ws) = some (V.ref a) :: ws.map some := by
      unfold L2.start
      rw [hlen]; simp
    rw [e0]
    refine in_run (dx := dx) rfl ns ws 1 [] H h1 (fun i y hy => ?_) hn (by simpa using nd) (by simpa using hl) h2 ?_
    · rw [show 1 + i = i + 1 by omega, List.getElem?_cons_succ, List.getElem?_map, hy]; rfl
    · rw [List.nil_append]; exact q
/-- a class that can be made -/
structure MkO (P : Program) (w : World) (K : PySem.W.Frag) (mg : Str → Option Value) (base : Heap) (ca : Str → Addr) (x : Str) (ns : List Str) : Prop where
  ex : ∃ f fd ps, Mk K (ca x) f ∧ mg x = some (.ref (ca x)) ∧ Binds K fd ps [] ∧ FnOk P w K mg base (L2.CX P w) 1 f fd ps (spI ca x ns)
/-- a method -/
structure MFo (P : Program) (w : World) (K : PySem.W.Frag) (mg : Str → Option Value) (base : Heap) (ca : Str → Addr) (j : Nat) (c m : Str) (g : List D → CR) : Prop where
  ex : ∃ k f fd ps, k ≤ j ∧ Meth K (ca c) m f ∧ Binds K fd ps [] ∧ FnOk P w K mg base (L2.CX P w) k f fd ps (spP K ca g)
  cl : Cls K (ca c)
theorem MFo.mono {i j : Nat} {c m : Str} {g : List D → CR} (h : MFo P w K mg base ca i c m g) (k : i ≤ j) : MFo P w K mg base ca j c m g := by
  obtain ⟨⟨k', f, fd, ps, h1, h2⟩, cl⟩ := h
  exact ⟨⟨k', f, fd, ps, Nat.le_trans h1 k, h2⟩, cl⟩
def MAll (P : Program) (w : World) (K : PySem.W.Frag) (mg : Str → Option Value) (base : Heap) (ca : Str → Addr) (j : Nat) (m : Str) : List (Str × (List D → CR)) → Prop
  | [] => True
  | p :: r => MFo P w K mg base ca j p.1 m p.2 ∧ MAll P w K mg base ca j m r
theorem MAll.get {j : Nat} {m : Str} : ∀ {As : List (Str × (List D → CR))} {c : Str} {g : List D → CR}, MAll P w K mg base ca j m As → As.lookup c = some g → MFo P w K mg base ca j c m g
  | [], _, _, _, e => by cases e
  | (c', g') :: r, c, g, ⟨h1, h2⟩, e => by
    rw [List.lookup_cons] at e
    by_cases q : c = c'
    · subst q
      simp at e; subst e; exact h1
    · have q' : (c == c') = false := by simpa using q
      rw [q'] at e
      exact h2.get e
end
def eMake (c : Str) (ns : List Str) (m : MA) : ME := fun τ => (m τ).bind fun ds τ1 => if ds.length = ns.length then .ok (.obj false c ns (freezeL ds)) τ1 else .bad
section
variable {X : Cx} {B : Bx} {W : WX}
theorem e_make {x : Str} {p pos : Pos} {e : Expr} {es : List Expr} {m : MA} {ns : List Str} {j : Nat} (c : XOk X W) (G : MkO X.prog X.w X.K X.mg X.base B.ca x ns) (hr : Room j X.A) (hg : Gl X x) (ha : PA X (e :: es) (rdA X.K B W m)) (hk : 2 ≤ j := by decide) (hdb : (x == ("__debug__" : Str)) = false := by decide)
    (he : starEach (e :: es) X.env = (false, eval e X.env) :: starEach es X.env := by rfl) (hpl : (backTo pos (starEach es X.env)).any (·.1) = false := by rfl) : PE X (.Call (.Name x p) (e :: es) [] pos) (rdE X.K B W (eMake x ns m)) := by
  obtain ⟨f, fd, ps, M, hm, hb, F⟩ := G.ex
  refine PE.imp (pe_make M F (hr.mono hk) hg hm hb .nil passL ha hdb he hpl) fun σ H Q h => ?_
  obtain ⟨F, τ, vs, ds, s, p⟩ := h
  refine ⟨F, τ, vs, ds, s, post_imp (post_bind p) (fun as τ1 q us F1 H1 hl s1 => ?_) fun _ _ q => q⟩
  by_cases z : as.length = ns.length
  · rw [if_pos z] at q
    obtain ⟨F2, sm, rl, s2⟩ := s1.freeze hl
    intro y dx ny ndx ne
    refine ⟨y, dx, us, by rw [List.append_nil], hl.trans z, upd_same, rfl, ?_⟩
    rw [upd_upd]
    have s3 := s2.grown (same_upd (o := .own y) ndx)
    have hy : upd H1 dx (.own y) y = none := by rw [upd_ne (Ne.symm ne)]; exact ny
    obtain ⟨s4, sm2⟩ := s3.new (o := .ins (B.ca x) dx (ns.zip us)) hy
    exact q _ _ _ (s4.push ⟨y, dx, _, us, rfl, upd_same, rfl, (hl.trans z).symm, RepL.mono sm2 _ _ rl⟩)
  · rw [if_neg z] at q; exact q.elim
/-! ### attributes -/
def lookD (f : Str) : List Str → List D → Option D
  | n :: ns, x :: xs => if f = n then some x else lookD f ns xs
  | _, _ => none
def gFld (c f : Str) : D → Option D
  | .obj _ c' ns xs => if c' = c then lookD f ns xs else none
  | _ => none
theorem look_rep {K : PySem.W.Frag} {ca : Str → Addr} {F : Hp} {f : Str} {d : D} : ∀ {ns : List Str} {xs : List D} {vs : List V}, RepL K ca F xs vs → lookD f ns xs = some d → ∃ v, (ns.zip vs).lookup f = some v ∧ Rep K ca F d v
  | [], _, _, _, e => by cases e
  | _ :: _, [], _, _, e => by cases e
  | n :: ns, x :: xs, _, ⟨v, r, rfl, h1, h2⟩, e => by
    have e : (if f = n then some x else lookD f ns xs) = some d := e
    rw [List.zip_cons_cons, List.lookup_cons]
    by_cases q : f = n
    · rw [if_pos q] at e
      cases e
      have q' : (f == n) = true := by simpa using q
      rw [q']
      exact ⟨v, rfl, h1⟩
    · rw [if_neg q] at e
      have q' : (f == n) = false := by simpa using q
      rw [q']
      exact look_rep h2 e
theorem look_repO {K : PySem.W.Frag} {ca : Str → Addr} {F H : Hp} {f : Str} {d : D} : ∀ {ns : List Str} {xs : List D} {vs : List V} {g : Ct}, RepOs K ca F H xs vs g → lookD f ns xs = some d → ∃ v g', (ns.zip vs).lookup f = some v ∧ RepO K ca F H d v g'
  | [], _, _, _, _, e => by cases e
  | _ :: _, [], _, _, _, e => by cases e
  | n :: ns, x :: xs, _, _, ⟨v, r, f1, f2, rfl, h1, h2, _⟩, e => by
    have e : (if f = n then some x else lookD f ns xs) = some d := e
    rw [List.zip_cons_cons, List.lookup_cons]
    by_cases q : f = n
    · rw [if_pos q] at e
      cases e
      have q' : (f == n) = true := by simpa using q
      rw [q']
      exact ⟨v, f1, rfl, h1⟩
    · rw [if_neg q] at e
      have q' : (f == n) = false := by simpa using q
      rw [q']
      exact look_repO h2 e
theorem z_fld {e : Expr} {c f : Str} {pos : Pos} {m : MZ} (cl : Cls X.K (B.ca c)) (na : NoAttr X.K (B.ca c) f) (h : PE X e (rdZ X.K B m)) (hb : attributeBase e f X.env (eval e X.env) = eval e X.env := by rfl) : PE X (.Attribute e f pos) (rdZ X.K B (z1 (gFld c f) m)) := PE.imp (pe_fld h hb) fun σ H Q h => by
  obtain ⟨F, τ, vs, ds, s, d, e, k⟩ := h
  obtain ⟨a, ea, e3⟩ := bind_some e
  refine ⟨F, τ, vs, ds, s, a, ea, fun x f1 hx => ?_⟩
  cases a with
  | obj mm c' ns xs =>
    replace e3 : (if c' = c then lookD f ns xs else none) = some d := e3
    by_cases q : c' = c
    · rw [if_pos q] at e3
      subst q
      cases mm with
      | true =>
        obtain ⟨a, dx, fs, ws, g, rfl, h2, rfl, h4, h5, _⟩ := hx
        obtain ⟨v, g', l, r⟩ := look_repO h5 e3
        exact ⟨a, _, dx, _, v, rfl, h2, cl, na, l, k v _ r⟩
      | false =>
        obtain ⟨⟨a, dx, fs, ws, rfl, h2, rfl, h4, h5⟩, _⟩ := hx
        obtain ⟨v, l, r⟩ := look_rep h5 e3
        exact ⟨a, _, dx, _, v, rfl, s.same _ _ h2, cl, na, l, k v _ r.o⟩
    · rw [if_neg q] at e3; cases e3
  | _ => cases e3
/-! ### a method's call -/
def tMethX (C : Addr) (m : Str) (sp : Sp) (E : L2.St → XK) (ta : TE) (t : TA) : TE := fun σ H Q => ta σ H fun x H1 => ∃ a dx fs, x = .ref a ∧ H1 a = some (.ins C dx fs) ∧ fs.lookup m = none ∧ t σ H1 fun vs H2 => sp (x :: vs) H2 Q (E σ)
theorem pe_methX {CX : CXT} {k : Nat} {f C : Addr} {fd : FuncData} {ps : List Str} {sp : Sp} {E : L2.St → XK} {m : Str} {pos apos : Pos} {e o : Expr} {es : List Expr} {ta : TE} {t : TA} {pl : Sem Bool} (he : PE X o ta) (c : Cls X.K C) (hm : Meth X.K C m f) (F : FnOk X.prog X.w X.K X.mg X.base CX k f fd ps sp) (hr : Room k X.A) (hb : Binds X.K fd ps []) (hx : ∀ σ, PassesAt CX X σ (E σ)) (ha : PA X (e :: es) t)
    (hst : starEach (e :: es) X.env = (false, eval e X.env) :: starEach es X.env := by rfl) (hpl : (backTo pos (starEach es X.env)).any (·.1) = false := by rfl)
    (ht : eval (.Call (.Attribute o m apos) (e :: es) [] pos) X.env = (do
      let ov ← eval o X.env
      standAt apos.atName
      let (f, first) ← holding [ov] (getMethod ov m pl)
      callWith pos f first (backTo pos (starEach (e :: es) X.env)) (backToKw pos (keywordEach [] X.env))) := by rfl) :
    PE X (.Call (.Attribute o m apos) (e :: es) [] pos) (tMethX C m sp E ta t) := by
  refine ⟨fun pins s σ H Q I h => ?_⟩
  refine PySem.W.methodCall_KW (pl := pl) (thn (he.run pins s σ H _ I h) fun u s1 ⟨x, H1, I1, rx, a, dx, fs, ex, ea, l, q⟩ => ?_) ht
  subst ex
  obtain rfl : u = Value.ref a := rx
  refine getmeth_ok I1 ea c hm l ?_
  refine PySem.W.callWith_K (first := [.ref a]) (h₀ := X.base) I.ok.mod.kin hm.kp (thn (ha.run pos pins s1 σ H1 _ I1 q) fun us s2 ⟨vs, H2, I2, r, q2⟩ => ⟨I2.kIn, ?_⟩) hst hpl
  exact run_fnS (us := .ref a :: us) (vs := .ref a :: vs) F hr hb (hx σ) I2 (.cons rfl r) q2
/-- the classes that have it, each with its function -/
def eMeth (As : List (Str × (List D → CR))) (m : Str) (mo : ME) (ma : MA) : ME := fun τ => (mo τ).bind fun d τ1 => match d with
  | .obj false c ns xs => match As.lookup c with
    | some g => if ns.contains m = true then .bad else (ma τ1).bind fun ds τ2 => ofC (g (.obj false c ns xs :: freezeL ds)) τ2
    | none => .bad
  | _ => .bad
theorem lookup_zip_none {m : Str} : ∀ {ns : List Str} {vs : List V}, ns.contains m = false → (ns.zip vs).lookup m = none
  | [], _, _ => rfl
  | _ :: _, [], _ => rfl
  | n :: ns, v :: vs, h => by
    rw [List.contains_cons] at h
    obtain ⟨h1, h2⟩ := Bool.or_eq_false_iff.mp h
    rw [List.zip_cons_cons, List.lookup_cons, h1]
    exact lookup_zip_none h2
theorem e_meth {m : Str} {o e : Expr} {es : List Expr} {apos pos : Pos} {mo : ME} {ma : MA} {As : List (Str × (List D → CR))} {k : Nat} {pl : Sem Bool} (c : XOk X W) (hAs : MAll X.prog X.w X.K X.mg X.base B.ca k m As) (hr : Room k X.A) (ho : PE X o (rdE X.K B W mo)) (ha : PA X (e :: es) (rdA X.K B W ma)) (hne : As ≠ [] := by exact fun z => nomatch z)
    (hst : starEach (e :: es) X.env = (false, eval e X.env) :: starEach es X.env := by rfl) (hpl : (backTo pos (starEach es X.env)).any (·.1) = false := by rfl)
    (ht : eval (.Call (.Attribute o m apos) (e :: es) [] pos) X.env = (do
      let ov ← eval o X.env
      standAt apos.atName
      let (f, first) ← holding [ov] (getMethod ov m pl)
      callWith pos f first (backTo pos (starEach (e :: es) X.env)) (backToKw pos (keywordEach [] X.env))) := by rfl) :
    PE X (.Call (.Attribute o m apos) (e :: es) [] pos) (rdE X.K B W (eMeth As m mo ma)) := by
  refine ⟨fun pins s σ H Q I h => ?_⟩
  obtain ⟨F, τ, vs, ds, st, p⟩ := h
  unfold eMeth at p
  cases em : mo τ with
  | bad => rw [em] at p; exact p.elim
  | ex y τ1 =>
    cases As with
    | nil => exact absurd rfl hne
    | cons p0 r0 =>
      obtain ⟨⟨k', f, fd, ps, hk, hm, hb, G⟩, cl⟩ := hAs.1
      refine (pe_methX (pl := pl) ho cl hm G (hr.mono hk) hb (fun σ => passAt c.tk σ) ha hst hpl ht).run pins s σ H Q I ⟨F, τ, vs, ds, st, ?_⟩
      rw [em] at p ⊢
      exact p
  | ok d τ1 =>
    rw [em] at p
    cases d with
    | obj mm cc ns xs =>
      cases mm with
      | true => exact p.elim
      | false =>
        cases eg : As.lookup cc with
        | none => replace p : post _ _ (match As.lookup cc with | some g => if ns.contains m = true then R.bad else (ma τ1).bind fun ds τ2 => ofC (g (.obj false cc ns xs :: freezeL ds)) τ2 | none => R.bad) := p; rw [eg] at p; exact p.elim
        | some g =>
          replace p : post _ _ (match As.lookup cc with | some g => if ns.contains m = true then R.bad else (ma τ1).bind fun ds τ2 => ofC (g (.obj false cc ns xs :: freezeL ds)) τ2 | none => R.bad) := p
          rw [eg] at p
          by_cases nc : ns.contains m = true
          · replace p : post _ _ (if ns.contains m = true then R.bad else (ma τ1).bind fun ds τ2 => ofC (g (.obj false cc ns xs :: freezeL ds)) τ2) := p
            rw [if_pos nc] at p; exact p.elim
          · replace p : post _ _ (if ns.contains m = true then R.bad else (ma τ1).bind fun ds τ2 => ofC (g (.obj false cc ns xs :: freezeL ds)) τ2) := p
            rw [if_neg nc] at p
            obtain ⟨⟨k', f, fd, ps, hk, hm, hb, G⟩, cl⟩ := hAs.get eg
            refine (pe_methX (pl := pl) ho cl hm G (hr.mono hk) hb (fun σ => passAt c.tk σ) ha hst hpl ht).run pins s σ H Q I ⟨F, τ, vs, ds, st, ?_⟩
            rw [em]
            intro v F1 H1 s1
            obtain ⟨a, dx, fs, ws, rfl, h2, rfl, h4, h5⟩ := s1.topF rfl
            refine ⟨a, dx, _, rfl, s1.same _ _ h2, lookup_zip_none (by simpa using nc), F1, τ1, _, _, s1, post_imp (post_bind p) (fun as τ2 q us F2 H2 hl s2 => ?_) fun y τ2 q F2 H2 s2 => q F2 H2 s2.pop⟩
            obtain ⟨F3, sm, rl, s3⟩ := s2.freeze hl
            have rep := s3.topF rfl
            have s4 := s3.pop
            refine ⟨F3, .obj false cc ns xs :: freezeL as, s3.same, ⟨.ref a, us, rfl, rep, rl⟩, ?_⟩
            cases eq : g (.obj false cc ns xs :: freezeL as) with
            | ok d => rw [eq] at q; exact fun v F' H' f k1 k2 k3 k4 k5 k6 k7 => q v F' H' (s4.called k1 k2 k3 k4 k5 k6 k7)
            | ex y => rw [eq] at q; exact fun H' k1 => q F3 H' (s4.grown k1)
            | bad => rw [eq] at q; exact q
    | _ => exact p.elim
/-! ### isinstance of an own class -/
structure IsO (K : PySem.W.Frag) (C A : Addr) (b : Bool) : Prop where
  cl : Cls K C
  ha : PySem.W.findIn K (.ref C) "__class__" = some (some (.builtin "object.__class__"))
  hn : PySem.W.specialIn K (.builtin "object.__class__") "__get__" = some (some (.builtin "getset_descriptor.__get__"))
  htk : PySem.W.takesIn K (.builtin "object.__class__") = some true
  hm : PySem.W.mroIn K C (.type "object") = some true
  ko : PySem.W.kitOne K (.ref C) (.ref A) = some b
def zIsO (tbl : Str → Option Bool) (m : MZ) : MZ := fun τ => (m τ).bind fun d => match d with
  | .obj _ c _ _ => (tbl c).map D.bl
  | _ => none
theorem z_isO {A : Str} {aA : Addr} {e : Expr} {p p2 pos : Pos} {m : MZ} {tbl : Str → Option Bool} (hA : X.mg A = some (.ref aA)) (hI : ∀ c b, tbl c = some b → IsO X.K (B.ca c) aA b) (hg : Gl X "isinstance") (hgA : Gl X A) (hm : X.mg "isinstance" = none) (h : PE X e (rdZ X.K B m)) (hdb : (A == ("__debug__" : Str)) = false := by decide)
    (hs1 : starEach [e, .Name A p2] X.env = (false, eval e X.env) :: starEach [.Name A p2] X.env := by rfl) (hs2 : starEach [.Name A p2] X.env = (false, eval (.Name A p2) X.env) :: starEach [] X.env := by rfl) (hpl : (backTo pos (starEach [.Name A p2] X.env)).any (·.1) = false := by rfl) :
    PE X (.Call (.Name "isinstance" p) [e, .Name A p2] [] pos) (rdZ X.K B (zIsO tbl m)) := by
  have hAe : PE X (.Name A p2) (tC (.ref aA)) := pe_glob hgA hA rfl hdb
  refine PE.imp (pe_callB call_isi hg hm (by decide +kernel) (pa_cons h (pa_cons hAe pa_nil hs2) hs1) (by decide) (by decide) hs1 hpl) fun σ H Q h => ?_
  obtain ⟨F, τ, vs, ds, s, d, e, k⟩ := h
  obtain ⟨a, ea, e⟩ := bind_some e
  refine ⟨F, τ, vs, ds, s, a, ea, fun x f1 hx => ?_⟩
  cases a with
  | obj mm c' ns xs =>
    cases et : tbl c' with
    | none => simp only [et] at e; cases e
    | some b =>
      simp only [et] at e
      cases e
      have J := hI c' b et
      have hx' : ∃ a dx fs, x = .ref a ∧ H a = some (.ins (B.ca c') dx fs) := by
        cases mm with
        | true => obtain ⟨a, dx, fs, ws, g, h1, h2, _⟩ := hx; exact ⟨a, dx, fs, h1, h2⟩
        | false => obtain ⟨⟨a, dx, fs, ws, h1, h2, _⟩, _⟩ := hx; exact ⟨a, dx, fs, h1, s.same _ _ h2⟩
      obtain ⟨a, dx, fs, rfl, h2⟩ := hx'
      exact ⟨.ref a, .ref aA, .ref (B.ca c'), .ref aA, b, rfl, .own aA, .base (.ins h2 J.cl J.ha J.hn J.htk J.hm), J.ko, k (.bl b) _ (Rep.o (d := .bl b) rfl)⟩
  | _ => cases e
/-! ### lists joined -/
theorem RepL.append {K : PySem.W.Frag} {ca : Str → Addr} {F : Hp} : ∀ {xs ys : List D} {us vs : List V}, RepL K ca F xs us → RepL K ca F ys vs → RepL K ca F (xs ++ ys) (us ++ vs)
  | [], _, _, _, h, k => by cases (show _ = [] from h); exact k
  | x :: xs, ys, _, vs, ⟨v, r, e, h1, h2⟩, k => by subst e; exact ⟨v, r ++ vs, rfl, h1, h2.append k⟩
def catD : D → D → Option D
  | .lst false xs, .lst false ys => if xs.length + ys.length ≤ 1000000 then some (.lst true (xs ++ ys)) else none
  | _, _ => none
def slE' (o : Option D) (τ : Env) : R D := match o with
  | some x => .ok x τ | none => .bad
def eCat (a b : ME) : ME := fun τ => (a τ).bind fun x τ1 => (b τ1).bind fun y τ2 => slE' (catD (freeze x) (freeze y)) τ2
theorem e_cat {a b : Expr} {pos : Pos} {m n : ME} (ha : PE X a (rdE X.K B W m)) (hb : PE X b (rdE X.K B W n)) : PE X (.BinOp a .Add b pos) (rdE X.K B W (eCat m n)) := PE.imp (pe_op op_cat ha hb) fun σ H Q h => by
  obtain ⟨F, τ, vs, ds, s, p⟩ := h
  refine ⟨F, τ, vs, ds, s, post_imp (post_bind p) (fun x τ1 q v F1 H1 s1 => ⟨F1, τ1, _, _, s1, post_imp (post_bind q) (fun y τ2 q w F2 H2 s2 => ?_) fun c τ2 q F2 H2 s2 => q F2 H2 s2.pop⟩) fun _ _ q => q⟩
  obtain ⟨F3, sm, ⟨w', r', e1, r1, ⟨v', r'', e2, r2, _⟩⟩, s3⟩ := StT.freeze (us := [w, v]) (es := [y, x]) s2 rfl
  cases e1; cases e2
  cases ex : freeze x with
  | lst m1 xs =>
    cases ey : freeze y with
    | lst m2 ys =>
      rw [ex, ey] at q
      rw [ex] at r2; rw [ey] at r1
      cases m1 with
      | true => exact q.elim
      | false =>
        cases m2 with
        | true => exact q.elim
        | false =>
          replace q : post _ _ (slE' (if xs.length + ys.length ≤ 1000000 then some (.lst true (xs ++ ys)) else none) τ2) := q
          by_cases z : xs.length + ys.length ≤ 1000000
          · rw [if_pos z] at q
            obtain ⟨a1, us1, rfl, k1, k2⟩ := r2
            obtain ⟨a2, us2, rfl, l1, l2⟩ := r1
            refine ⟨a1, a2, us1, us2, rfl, rfl, s3.same _ _ k1, s3.same _ _ l1, ?_, fun p hp => ?_⟩
            · have h1 := k2.length
              have h2 := l2.length
              exact le_sizeLine (by omega)
            · have k3 := RepL.append k2 l2
              exact q _ _ _ ((s3.pushL k3).newLst k3.length hp)
          · rw [if_neg z] at q; exact q.elim
    | _ => rw [ex, ey] at q; cases xs <;> first | exact q.elim | (revert q; cases m1 <;> exact fun q => q.elim)
  | _ => rw [ex] at q; exact q.elim
end
end Bn

/-! A list lent to a call; an item set anew; `in` over lists of data. -/
namespace Bn
open PySem PySem.Spec PyProof.Rows L2
mutual
/-- holds nothing that could be a list or an object handed in -/
def clean : D → Bool
  | .non => true | .bl _ => true | .int _ => true | .str _ => true | .ty _ => true
  | .tup xs => cleanL xs
  | .lst m xs => m && cleanL xs
  | .cst _ => false
  | .obj m _ _ xs => m && cleanL xs
def cleanL : List D → Bool
  | [] => true
  | x :: xs => clean x && cleanL xs
end
section
variable {K : PySem.W.Frag} {ca : Str → Addr} {F F' H H' : Hp}
mutual
theorem Rep.back (k : ∀ a xs, SqT K F a xs → SqT K F' a xs) : ∀ (d : D) (v : V), clean d = true → Rep K ca F d v → Rep K ca F' d v
  | .non, _, _, h => h
  | .bl _, _, _, h => h
  | .int _, _, _, h => h
  | .str _, _, _, h => h
  | .ty _, _, _, h => h
  | .tup ds, v, c, h => by
    obtain ⟨a, vs, h1, h2, h3⟩ := h
    exact ⟨a, vs, h1, k a vs h2, RepL.back k ds vs c h3⟩
  | .lst true _, _, _, h => h.elim
  | .lst false xs, _, c, _ => by cases (show (false && cleanL xs) = true from c)
  | .cst _, _, c, _ => by cases (show false = true from c)
  | .obj true _ _ _, _, _, h => h.elim
  | .obj false _ _ xs, _, c, _ => by cases (show (false && cleanL xs) = true from c)
theorem RepL.back (k : ∀ a xs, SqT K F a xs → SqT K F' a xs) : ∀ (ds : List D) (vs : List V), cleanL ds = true → RepL K ca F ds vs → RepL K ca F' ds vs
  | [], _, _, h => h
  | d :: ds, _, c, ⟨v, r, e, h1, h2⟩ => by
    have c' : (clean d && cleanL ds) = true := c
    rw [Bool.and_eq_true] at c'
    exact ⟨v, r, e, Rep.back k d v c'.1 h1, RepL.back k ds r c'.2 h2⟩
end
mutual
theorem RepO.back (k : ∀ a xs, SqT K F a xs → SqT K F' a xs) : ∀ (d : D) (v : V) (f : Ct), clean d = true → RepO K ca F H d v f → RepO K ca F' H d v f
  | .lst true ds, v, f, c, h => by
    obtain ⟨a, vs, g, h1, h2, h3, h4⟩ := h
    exact ⟨a, vs, g, h1, h2, RepOs.back k ds vs g (by have c' : (true && cleanL ds) = true := c; simpa using c') h3, h4⟩
  | .obj true _ ns ds, v, f, c, h => by
    obtain ⟨a, dx, fs, vs, g, h1, h2, h2', h2'', h3, h4⟩ := h
    exact ⟨a, dx, fs, vs, g, h1, h2, h2', h2'', RepOs.back k ds vs g (by have c' : (true && cleanL ds) = true := c; simpa using c') h3, h4⟩
  | .lst false _, v, f, c, h => ⟨Rep.back k _ v c h.1, h.2⟩
  | .obj false _ _ _, v, f, c, h => ⟨Rep.back k _ v c h.1, h.2⟩
  | .non, v, f, c, h => ⟨Rep.back k _ v c h.1, h.2⟩
  | .bl _, v, f, c, h => ⟨Rep.back k _ v c h.1, h.2⟩
  | .int _, v, f, c, h => ⟨Rep.back k _ v c h.1, h.2⟩
  | .str _, v, f, c, h => ⟨Rep.back k _ v c h.1, h.2⟩
  | .ty _, v, f, c, h => ⟨Rep.back k _ v c h.1, h.2⟩
  | .tup _, v, f, c, h => ⟨Rep.back k _ v c h.1, h.2⟩
  | .cst _, v, f, c, h => ⟨Rep.back k _ v c h.1, h.2⟩
theorem RepOs.back (k : ∀ a xs, SqT K F a xs → SqT K F' a xs) : ∀ (ds : List D) (vs : List V) (f : Ct), cleanL ds = true → RepOs K ca F H ds vs f → RepOs K ca F' H ds vs f
  | [], _, _, _, h => h
  | d :: ds, _, f, c, ⟨v, r, f1, f2, e, h1, h2, h3⟩ => by
    have c' : (clean d && cleanL ds) = true := c
    rw [Bool.and_eq_true] at c'
    exact ⟨v, r, f1, f2, e, RepO.back k d v f1 c'.1 h1, RepOs.back k ds r f2 c'.2 h2, h3⟩
end
/-- what is owned is a list or an object -/
def LsIn (H : Hp) (a : Addr) : Prop := (∃ xs, H a = some (.lst xs)) ∨ ∃ c dx fs, H a = some (.ins c dx fs)
mutual
theorem RepO.kind : ∀ (d : D) (v : V) (f : Ct), RepO K ca F H d v f → ∀ a, 0 < f a → LsIn H a
  | .lst true ds, v, f, h, b, hb => by
    obtain ⟨a, vs, g, h1, h2, h3, h4⟩ := h
    by_cases e : b = a
    · subst e; exact .inl ⟨_, h2⟩
    · exact RepOs.kind ds vs g h3 b (by rw [h4, if_neg e] at hb; omega)
  | .obj true _ ns ds, v, f, h, b, hb => by
    obtain ⟨a, dx, fs, vs, g, h1, h2, h2', h2'', h3, h4⟩ := h
    by_cases e : b = a
    · subst e; exact .inr ⟨_, _, _, h2⟩
    · exact RepOs.kind ds vs g h3 b (by rw [h4, if_neg e] at hb; omega)
  | .lst false _, v, f, h, b, hb => by rw [h.2] at hb; omega
  | .obj false _ _ _, v, f, h, b, hb => by rw [h.2] at hb; omega
  | .non, v, f, h, b, hb => by rw [h.2] at hb; omega
  | .bl _, v, f, h, b, hb => by rw [h.2] at hb; omega
  | .int _, v, f, h, b, hb => by rw [h.2] at hb; omega
  | .str _, v, f, h, b, hb => by rw [h.2] at hb; omega
  | .ty _, v, f, h, b, hb => by rw [h.2] at hb; omega
  | .tup _, v, f, h, b, hb => by rw [h.2] at hb; omega
  | .cst _, v, f, h, b, hb => by rw [h.2] at hb; omega
theorem RepOs.kind : ∀ (ds : List D) (vs : List V) (f : Ct), RepOs K ca F H ds vs f → ∀ a, 0 < f a → LsIn H a
  | [], _, _, h, b, hb => by rw [h.2] at hb; omega
  | d :: ds, _, f, ⟨v, r, f1, f2, e, h1, h2, h3⟩, b, hb => by
    rw [h3] at hb
    by_cases q : 0 < f1 b
    · exact RepO.kind d v f1 h1 b q
    · exact RepOs.kind ds r f2 h2 b (by omega)
end
/-- the unchanging part while a call runs that is lent what f counts -/
def lend (F H : Hp) (f : Ct) : Hp := fun b => match F b with
  | some o => some o
  | none => if 0 < f b then H b else none
theorem lend_same (F H : Hp) (f : Ct) : Same F (lend F H f) := fun b x e => by
  unfold lend; rw [e]
theorem lend_sub (sm : Same F H) (f : Ct) : Same (lend F H f) H := fun b x e => by
  unfold lend at e
  cases q : F b with
  | some o => rw [q] at e; cases e; exact sm _ _ q
  | none =>
    rw [q] at e
    replace e : (if 0 < f b then H b else none) = some x := e
    by_cases z : 0 < f b
    · rw [if_pos z] at e; exact e
    · rw [if_neg z] at e; cases e
theorem lend_at (sm : Same F H) {f : Ct} {b : Addr} (h : 0 < f b) : lend F H f b = H b := by
  unfold lend
  cases q : F b with
  | some o => exact (sm _ _ q).symm
  | none => exact if_pos h
end
section
variable {K : PySem.W.Frag} {B : Bx} {F H : Hp} {σ : L2.St} {τ : Env} {vs us : List V} {ds es : List D} {v : V} {d : D} {f : Ct}
theorem lend_rep (s : StT K B F H σ τ vs ds) (r : RepOs K B.ca F H es us f) : RepL K B.ca (lend F H f) (freezeL es) us :=
  RepOs.fz (lend_same F H f) _ _ _ (fun _ h => lend_at s.same h) r
/-- behind a call that was lent something: all is as it was -/
theorem StT.lent {F' H' : Hp} {g : Ct} (s : StT K B F H σ τ vs ds) (r : RepOs K B.ca F H es us f) (h1 : Same (lend F H f) F') (h2 : Same F' H') (h3 : Same H H') (hv : RepO K B.ca F' H' d v g) (h4 : ∀ a, g a ≤ 1) (h5 : ∀ a, 0 < g a → F' a = none ∧ H a = none)
    (h6 : ∀ a, F' a ≠ none → lend F H f a ≠ none ∨ H a = none) (hc : clean d = true) : ∃ F2, StT K B F2 H' σ τ (v :: vs) (d :: ds) := by
  classical
  have sm := lend_same F H f
  refine ⟨fun b => if F b = none ∧ 0 < f b then none else F' b, s.called (g := g) (fun b x e => ?_) (fun b x e => ?_) h3 (hv.back (fun a xs q => ?_) _ _ _ hc) h4 (fun a q => ⟨?_, (h5 a q).2⟩) fun a q => ?_⟩
  · show (if F b = none ∧ 0 < f b then none else F' b) = some x
    rw [if_neg (fun z => by rw [z.1] at e; cases e)]
    exact h1 _ _ (sm _ _ e)
  · replace e : (if F b = none ∧ 0 < f b then none else F' b) = some x := e
    split at e
    · cases e
    · exact h2 _ _ e
  · rcases q with q | q
    · refine .inl ?_
      have key : ∀ o, F' a = some o → (∀ ys, o ≠ .lst ys) → (∀ c dx fs, o ≠ .ins c dx fs) → (fun b => if F b = none ∧ 0 < f b then none else F' b) a = some o := fun o ho n1 n2 => by
        show (if F a = none ∧ 0 < f a then none else F' a) = some o
        rw [if_neg (fun z => ?_)]
        · exact ho
        · have e := h1 a
          rw [lend_at s.same z.2] at e
          rcases RepOs.kind _ _ _ r a z.2 with ⟨ys, hk⟩ | ⟨c, dx, fs, hk⟩
          · have := e _ hk
            rw [ho] at this
            cases this
            exact n1 _ rfl
          · have := e _ hk
            rw [ho] at this
            cases this
            exact n2 _ _ _ rfl
      rcases q with q | ⟨o, q⟩
      · exact .inl (key _ q (fun _ z => by cases z) (fun _ _ _ z => by cases z))
      · exact .inr ⟨o, key _ q (fun _ z => by cases z) (fun _ _ _ z => by cases z)⟩
    · exact .inr q
  · show (if F a = none ∧ 0 < f a then none else F' a) = none
    split
    · rfl
    · exact (h5 a q).1
  · replace q : (if F a = none ∧ 0 < f a then none else F' a) ≠ none := q
    by_cases z : F a = none ∧ 0 < f a
    · rw [if_pos z] at q; exact absurd rfl q
    · rw [if_neg z] at q
      rcases h6 a q with k | k
      · refine .inl fun e => ?_
        unfold lend at k
        rw [e] at k
        replace k : (if 0 < f a then H a else none) ≠ none := k
        rw [if_neg (fun y => z ⟨e, y⟩)] at k
        exact k rfl
      · exact .inr k
end
def lendR (r : CR) (τ : Env) : R D := match r with
  | .ok d => if clean d = true then .ok d τ else .bad
  | .ex c => .ex c τ
  | .bad => .bad
def eCallZ (g : List D → CR) (m : Env → Option (List D)) : ME := fun τ => match m τ with
  | some ds => lendR (g (freezeL ds)) τ
  | none => .bad
section
variable {X : Cx} {B : Bx} {W : WX}
theorem lend_sp {g : List D → CR} {F H : Hp} {σ : L2.St} {τ : Env} {vs us : List V} {ds es : List D} {f : Ct} {Q : VK} (s : StT X.K B F H σ τ vs ds) (r : RepOs X.K B.ca F H es us f) {pre : List D} {prv : List V} (hp : RepL X.K B.ca F pre prv)
    (p : post (fun d τ' => ∀ v F' H', StT X.K B F' H' σ τ' (v :: vs) (d :: ds) → Q v H') (exW X.K B W σ vs ds) (lendR (g (pre ++ freezeL es)) τ)) : spP X.K B.ca g (prv ++ us) H Q (W · · σ ·) := by
  refine ⟨lend F H f, pre ++ freezeL es, lend_sub s.same f, (RepL.mono (lend_same F H f) _ _ hp).append (lend_rep s r), ?_⟩
  unfold lendR at p
  cases eg : g (pre ++ freezeL es) with
  | ok d =>
    rw [eg] at p
    replace p : post _ _ (if clean d = true then R.ok d τ else R.bad) := p
    by_cases z : clean d = true
    · rw [if_pos z] at p
      intro v F' H' f' k1 k2 k3 k4 k5 k6 k7
      obtain ⟨F2, s2⟩ := s.lent r k1 k2 k3 k4 k5 k6 k7 z
      exact p v F2 H' s2
    · rw [if_neg z] at p; exact p.elim
  | ex c => rw [eg] at p; exact fun H' k1 => p F H' (s.grown k1)
  | bad => rw [eg] at p; exact p
theorem e_callZ {x : Str} {p pos : Pos} {e : Expr} {es : List Expr} {m : Env → Option (List D)} {g : List D → CR} {k j : Nat} (c : XOk X W) (G : Fo X.prog X.w X.K X.mg X.base B.ca k x g) (hr : Room j X.A) (hg : Gl X x) (ha : PA X (e :: es) (rdZA X.K B m)) (hk : k ≤ j := by decide) (hdb : (x == ("__debug__" : Str)) = false := by decide)
    (he : starEach (e :: es) X.env = (false, eval e X.env) :: starEach es X.env := by rfl) (hpl : (backTo pos (starEach es X.env)).any (·.1) = false := by rfl) : PE X (.Call (.Name x p) (e :: es) [] pos) (rdE X.K B W (eCallZ g m)) := by
  obtain ⟨f, fd, ps, h1, h2, h3, h4⟩ := G.ex
  refine PE.imp (pe_callS h4 (hr.mono hk) hg h1 h2 h3 (fun σ => passAt c.tk σ) ha hdb he hpl) fun σ H Q h => ?_
  obtain ⟨F, τ, vs, ds, s, p⟩ := h
  unfold eCallZ at p
  cases em : m τ with
  | none => rw [em] at p; exact p.elim
  | some as =>
    rw [em] at p
    exact ⟨F, τ, vs, ds, s, as, em, fun us f r => lend_sp s r (pre := []) (prv := []) rfl p⟩
def eMethZ (As : List (Str × (List D → CR))) (m : Str) (mo : ME) (ma : Env → Option (List D)) : ME := fun τ => (mo τ).bind fun d τ1 => match d with
  | .obj false c ns xs => match As.lookup c with
    | some g => if ns.contains m = true then .bad else (match ma τ1 with
      | some ds => lendR (g (.obj false c ns xs :: freezeL ds)) τ1
      | none => .bad)
    | none => .bad
  | _ => .bad
theorem e_methZ {m : Str} {o e : Expr} {es : List Expr} {apos pos : Pos} {mo : ME} {ma : Env → Option (List D)} {As : List (Str × (List D → CR))} {k : Nat} {pl : Sem Bool} (c : XOk X W) (hAs : MAll X.prog X.w X.K X.mg X.base B.ca k m As) (hr : Room k X.A) (ho : PE X o (rdE X.K B W mo)) (ha : PA X (e :: es) (rdZA X.K B ma)) (hne : As ≠ [] := by exact fun z => nomatch z)
    (hst : starEach (e :: es) X.env = (false, eval e X.env) :: starEach es X.env := by rfl) (hpl : (backTo pos (starEach es X.env)).any (·.1) = false := by rfl)
    (ht : eval (.Call (.Attribute o m apos) (e :: es) [] pos) X.env = (do
      let ov ← eval o X.env
      standAt apos.atName
      let (f, first) ← holding [ov] (getMethod ov m pl)
      callWith pos f first (backTo pos (starEach (e :: es) X.env)) (backToKw pos (keywordEach [] X.env))) := by rfl) :
    PE X (.Call (.Attribute o m apos) (e :: es) [] pos) (rdE X.K B W (eMethZ As m mo ma)) := by
  refine ⟨fun pins s σ H Q I h => ?_⟩
  obtain ⟨F, τ, vs, ds, st, p⟩ := h
  unfold eMethZ at p
  cases em : mo τ with
  | bad => rw [em] at p; exact p.elim
  | ex y τ1 =>
    cases As with
    | nil => exact absurd rfl hne
    | cons p0 r0 =>
      obtain ⟨⟨k', f, fd, ps, hk, hm, hb, G⟩, cl⟩ := hAs.1
      refine (pe_methX (pl := pl) ho cl hm G (hr.mono hk) hb (fun σ => passAt c.tk σ) ha hst hpl ht).run pins s σ H Q I ⟨F, τ, vs, ds, st, ?_⟩
      rw [em] at p ⊢
      exact p
  | ok d τ1 =>
    rw [em] at p
    cases d with
    | obj mm cc ns xs =>
      cases mm with
      | true => exact p.elim
      | false =>
        replace p : post _ _ (match As.lookup cc with | some g => if ns.contains m = true then R.bad else (match ma τ1 with | some ds => lendR (g (.obj false cc ns xs :: freezeL ds)) τ1 | none => R.bad) | none => R.bad) := p
        cases eg : As.lookup cc with
        | none => rw [eg] at p; exact p.elim
        | some g =>
          rw [eg] at p
          by_cases nc : ns.contains m = true
          · replace p : post _ _ (if ns.contains m = true then R.bad else (match ma τ1 with | some ds => lendR (g (.obj false cc ns xs :: freezeL ds)) τ1 | none => R.bad)) := p
            rw [if_pos nc] at p; exact p.elim
          · replace p : post _ _ (if ns.contains m = true then R.bad else (match ma τ1 with | some ds => lendR (g (.obj false cc ns xs :: freezeL ds)) τ1 | none => R.bad)) := p
            rw [if_neg nc] at p
            cases ea : ma τ1 with
            | none => rw [ea] at p; exact p.elim
            | some as =>
              rw [ea] at p
              obtain ⟨⟨k', f, fd, ps, hk, hm, hb, G⟩, cl⟩ := hAs.get eg
              refine (pe_methX (pl := pl) ho cl hm G (hr.mono hk) hb (fun σ => passAt c.tk σ) ha hst hpl ht).run pins s σ H Q I ⟨F, τ, vs, ds, st, ?_⟩
              rw [em]
              intro v F1 H1 s1
              have rep := s1.topF rfl
              obtain ⟨a, dx, fs, ws, rfl, h2, rfl, h4, h5⟩ := rep
              have rep := s1.topF rfl
              refine ⟨a, dx, _, rfl, s1.same _ _ h2, lookup_zip_none (by simpa using nc), F1, τ1, _, _, s1, as, ea, fun us f r => ?_⟩
              exact lend_sp s1.pop r (pre := [.obj false cc ns xs]) (prv := [.ref a]) ⟨.ref a, [], rfl, rep, rfl⟩ p
    | _ => exact p.elim
/-! ### an item set anew -/
theorem RepOs.set {K : PySem.W.Frag} {ca : Str → Addr} {F H : Hp} {d : D} {v : V} {g2 : Ct} (hv : RepO K ca F H d v g2) : ∀ {ds : List D} {vs : List V} {f : Ct} (j : Nat), RepOs K ca F H ds vs f → ∃ g, RepOs K ca F H (ds.set j d) (vs.set j v) g ∧ ∀ b, g b ≤ f b + g2 b
  | [], vs, f, j, h => by
    cases (show vs = [] from h.1)
    exact ⟨f, h, fun b => by omega⟩
  | x :: ds, _, f, 0, ⟨w, r, f1, f2, e, h1, h2, h3⟩ => by
    subst e
    exact ⟨fun b => g2 b + f2 b, ⟨v, r, g2, f2, rfl, hv, h2, fun _ => rfl⟩, fun b => by show g2 b + f2 b ≤ f b + g2 b; rw [h3]; omega⟩
  | x :: ds, _, f, j + 1, ⟨w, r, f1, f2, e, h1, h2, h3⟩ => by
    subst e
    obtain ⟨g, k1, k2⟩ := RepOs.set hv j h2
    exact ⟨fun b => f1 b + g b, ⟨w, r.set j v, f1, g, rfl, h1, k1, fun _ => rfl⟩, fun b => by show f1 b + g b ≤ f b + g2 b; have := k2 b; rw [h3]; omega⟩
def setD (es : List D) (k : Int) (d : D) : Option (List D) := (ixN es.length k).map fun j => es.set j d
def sSetIx (i : Nat) (mi : MZ) (m : ME) : MS := fun τ => (m τ).s fun d τ1 => match τ1.getD i none with
  | some (.lst true es) => (match mi τ1 with
    | some (.int k) => (match setD es k d with
      | some es' => .nx (τ1.set i (some (.lst true es')))
      | none => .bad)
    | _ => .bad)
  | _ => .bad
theorem s_setIx {i : Nat} {o ix e : Expr} {pos pos' : Pos} {mi : MZ} {m : ME} (ho : PE X o (tVar i)) (hi : PE X ix (rdZ X.K B mi)) (he : PE X e (rdE X.K B W m)) (hs : swapsWithSole [.Subscript o ix pos'] e pos.line X.env = pure false := by rfl) (hw : swappedStores [.Subscript o ix pos'] e X.env = pure none := by rfl)
    (h1 : (assignEach [.Subscript o ix pos'] X.env).map (·.2) = [assign (.Subscript o ix pos') X.env] := by rfl)
    (ha : ∀ v, assign (.Subscript o ix pos') X.env v = (do
      let ov ← holding [v] (eval o X.env)
      let iv ← holding [v, ov] (eval ix X.env)
      standAt pos'
      holding [v, ov, iv] (setItem ov iv v)
      release [v, ov, iv] []) := by intro _; rfl) : PS X (.Assign [.Subscript o ix pos'] e pos) (rdS X.K B W (sSetIx i mi m)) :=
  PS.imp (ps_asg he (pg_sub ho hi set_list ha) hs hw h1) fun D σ H ⟨F, τ, vs, ds, s, p⟩ => by
    refine ⟨F, τ, vs, ds, s, post_imp (post_s (σ := σ) p) (fun d τ1 q y F1 H1 s1 => ?_) fun _ _ q => q⟩
    cases e1 : τ1.getD i none with
    | none => rw [e1] at q; exact q.elim
    | some dl =>
      rw [e1] at q
      cases dl with
      | lst mm es =>
        cases mm with
        | false => exact q.elim
        | true =>
          replace q : postS X.K B W vs ds D (match mi τ1 with | some (.int k) => (match setD es k d with | some es' => SR.nx (τ1.set i (some (.lst true es'))) | none => SR.bad) | _ => SR.bad) := q
          cases e2 : mi τ1 with
          | none => rw [e2] at q; exact q.elim
          | some dk =>
            rw [e2] at q
            cases dk with
            | int k =>
              replace q : postS X.K B W vs ds D (match setD es k d with | some es' => SR.nx (τ1.set i (some (.lst true es'))) | none => SR.bad) := q
              cases e3 : ixN es.length k with
              | none => unfold setD at q; rw [e3] at q; exact q.elim
              | some j =>
                unfold setD at q; rw [e3] at q
                replace q : postS X.K B W vs ds D (SR.nx (τ1.set i (some (.lst true (es.set j d))))) := q
                have e1' := getD_some e1
                obtain ⟨v, f, h1, a, us, g, rfl, h2, h3, _⟩ := s1.get e1'
                refine ⟨.ref a, h1, F1, τ1, _, _, s1, .int k, e2, fun w fw hw => ?_⟩
                obtain rfl : w = V.int k := hw.1
                refine ⟨a, us, k, j, rfl, rfl, h2, by rw [h3.length]; exact e3, ?_⟩
                obtain ⟨v, k1, s2⟩ := s1.take e1'
                rw [h1] at k1
                cases k1
                have s3 := s2.change (us := [y]) (ds := [d]) (ys := us.set j y) (es2 := es.set j d) rfl h2 fun g1 g2 r1 r2 => by
                  obtain ⟨_, r, f1, f2, ey, q1, q2, q3⟩ := r2
                  cases ey
                  obtain ⟨g, k1, k2⟩ := RepOs.set q1 j r1
                  exact ⟨g, k1, fun b => by have := k2 b; have := q3 b; have := q2.2 b; omega⟩
                have s4 := s3.putBack (i := i) (by rw [List.length_set]; exact (List.getElem?_eq_some_iff.mp e1').1) h1
                rw [List.set_set] at s4
                exact q σ F1 _ s4
            | _ => exact q.elim
      | _ => exact q.elim
/-! ### in, over lists of data -/
def gInD (neg : Bool) (a b : D) : Option D := match b with
  | .lst m xs => if okP a = true ∧ okP (.lst m xs) = true then some (.bl (if neg = true then !(toPs xs).any fun z => PyData.eqv z (toP a) else (toPs xs).any fun z => PyData.eqv z (toP a))) else none
  | _ => none
theorem sInD {K : PySem.W.Frag} : OpS K (rInD K) (gInD false) := by
  intro ca F H x y a b d f1 f2 Q sm hx hy e q
  cases b with
  | lst m xs =>
    replace e : (if okP a = true ∧ okP (.lst m xs) = true then some (D.bl ((toPs xs).any fun z => PyData.eqv z (toP a))) else none) = some d := e
    by_cases c : okP a = true ∧ okP (.lst m xs) = true
    · rw [if_pos c] at e
      cases e
      have c1 := c.1
      have c2 := c.2
      unfold okP at c1 c2
      rw [Bool.and_eq_true] at c1 c2
      exact ⟨_, _, RepO.dp sm a x f1 c1.1 hx, RepO.dp sm _ y f2 c2.1 hy, c1.2, c2.2, q (.bl _) _ (Rep.o (d := .bl _) rfl)⟩
    · rw [if_neg c] at e; cases e
  | _ => cases e
theorem sNotInD {K : PySem.W.Frag} : OpS K (rNotInD K) (gInD true) := by
  intro ca F H x y a b d f1 f2 Q sm hx hy e q
  cases b with
  | lst m xs =>
    replace e : (if okP a = true ∧ okP (.lst m xs) = true then some (D.bl (!(toPs xs).any fun z => PyData.eqv z (toP a))) else none) = some d := e
    by_cases c : okP a = true ∧ okP (.lst m xs) = true
    · rw [if_pos c] at e
      cases e
      have c1 := c.1
      have c2 := c.2
      unfold okP at c1 c2
      rw [Bool.and_eq_true] at c1 c2
      exact ⟨_, _, RepO.dp sm a x f1 c1.1 hx, RepO.dp sm _ y f2 c2.1 hy, c1.2, c2.2, q (.bl _) _ (Rep.o (d := .bl _) rfl)⟩
    · rw [if_neg c] at e; cases e
  | _ => cases e
/-- a comprehension bound to a name that inner blocks read -/
theorem sw_false {elt : Expr} {gs : List Comprehension} {scope : Scope} {pos py : Pos} {y : Str} {l : Nat} {env : PySem.Env} (hy : env.scope.names.lookup y = some .cell) : swapsWith (.ListComp elt gs scope pos) (some (.Name y py)) l env = pure false := by
  have h : (env.kindOf y == some .local) = false := by
    show (env.scope.names.lookup y == some .local) = false
    rw [hy]; rfl
  show pure (env.blockKind == .function && env.kindOf y == some .local && py.line == pos.line && !(scope.names.any fun (n, k) => n == y && (k == .local || k == .cell))) = _
  rw [h, Bool.and_false]
  rfl
theorem units65 {k : Nat} {A : Around} (r : Room k A) : A.units + 65 < cLine := by have := r.un; omega
/-! ### a comprehension over a list that its name keeps -/
theorem RepOs.getI {K : PySem.W.Frag} {ca : Str → Addr} {F H : Hp} : ∀ {es : List D} {us : List V} {g : Ct} {i : Nat} {d : D}, RepOs K ca F H es us g → es[i]? = some d → ∃ v f, us[i]? = some v ∧ RepO K ca F H d v f
  | [], _, _, _, _, _, e => by simp at e
  | x :: es, _, _, 0, d, ⟨v, r, f1, f2, e, h1, _⟩, hd => by
    subst e
    simp at hd; subst hd
    exact ⟨v, f1, rfl, h1⟩
  | x :: es, _, _, i + 1, d, ⟨v, r, f1, f2, e, _, h2, _⟩, hd => by
    subst e
    obtain ⟨w, f, k1, k2⟩ := RepOs.getI (i := i) h2 (by simpa using hd)
    exact ⟨w, f, by simpa using k1, k2⟩
theorem itOk_own {K : PySem.W.Frag} {a : Addr} {es : List D} {vs : List V} {ds : List D} (hz : es.all isFz = true) : ItOk K B (Itl K a) es (.ref a :: vs) (.lst true es :: ds) := by
  have look : ∀ {F H σ τ}, StT K B F H σ τ (.ref a :: vs) (.lst true es :: ds) → ∃ us g, SqL K H a us ∧ RepOs K B.ca F H es us g := fun {F H σ τ} s => by
    obtain ⟨f, a', us, g, e, h1, h2, _⟩ := s.top
    cases e
    exact ⟨us, g, sqOf h1, h2⟩
  refine ⟨fun i F H σ τ s hi => ?_, fun F H σ τ s => ?_, fun i d F H σ τ x H' us' es' hl hd s y => ?_⟩
  · obtain ⟨us, g, h1, h2⟩ := look s
    exact ⟨us, us[i]'(by rw [h2.length]; exact hi), h1, by simp [h2.length, hi]⟩
  · obtain ⟨us, g, h1, h2⟩ := look s
    exact ⟨us, h1, by rw [h2.length]; exact Nat.le_refl _⟩
  · obtain ⟨rfl, y⟩ := y
    obtain ⟨us, g, h1, h2⟩ := look (s.pops hl)
    obtain ⟨v, f, e, r⟩ := h2.getI hd
    rw [y us h1] at e; cases e
    exact ⟨F, s.push ((repO_fz (List.all_eq_true.mp hz _ (List.mem_of_getElem? hd))).mp r).1⟩
def eLcB (own : List Nat) (i : Nat) (g : D → Env → Option Env) (t : MT) (m : ME) : ME := fun τ => match τ.getD i none with
  | some (.lst true es) => if es.all isFz = true then (match lcL own g t m es [] (wipeE (τ.set i none) own) with
    | .ok acc τ2 => .ok (.lst true acc) (τ2.set i (some (.lst true es)))
    | _ => .bad) else .bad
  | _ => .bad
theorem StT.len {K : PySem.W.Frag} {F H : Hp} {σ : L2.St} {τ : Env} {vs : List V} {ds : List D} (s : StT K B F H σ τ vs ds) : σ.length = τ.length := by
  obtain ⟨_, _, a, _⟩ := s
  exact a.length
theorem impLcB {own : List Nat} {i : Nat} {g : D → Env → Option Env} {sl : List Nat} {t : MT} {m : ME} (hsl : ∀ j ∈ sl, j ∈ own) (hio : ioFreeL B own) (σ : L2.St) (H : Hp) (Q : VK) (h : rdE X.K B W (eLcB own i g t m) σ H Q) : tLc (iList X.K (tVar i)) (rdG X.K B sl g) (rdT X.K B W0 t) (rdE X.K B W0 m) own σ H Q := by
  obtain ⟨F, τ, vs, ds, s, p⟩ := h
  unfold eLcB at p
  cases e0 : τ.getD i none with
  | none => rw [e0] at p; exact p.elim
  | some d0 =>
    rw [e0] at p
    cases d0 with
    | lst mm es =>
      cases mm with
      | false => exact p.elim
      | true =>
        replace p : post _ _ (if es.all isFz = true then (match lcL own g t m es [] (Bn.wipeE (τ.set i none) own) with | .ok acc τ2 => R.ok (D.lst true acc) (τ2.set i (some (.lst true es))) | _ => R.bad) else R.bad) := p
        by_cases z : es.all isFz = true
        · rw [if_pos z] at p
          obtain ⟨v, h1, s1⟩ := s.take (getD_some e0)
          obtain ⟨f, a, us, g', rfl, h2, _⟩ := s1.top
          refine ⟨.ref a, h1, a, rfl, ⟨us, sqOf h2⟩, ?_⟩
          cases e : lcL own g t m es [] (Bn.wipeE (τ.set i none) own) with
          | ok acc τ2 =>
            rw [e] at p
            refine lc_core' (itOk_own z) hsl hio s1 e fun v F2 H2 s2 => p v F2 H2 ?_
            have s3 := StT.swap (us := [v]) (es := [.lst true acc]) s2 rfl
            exact s3.putBack (by rw [← s3.len]; exact (List.getElem?_eq_some_iff.mp h1).1) h1
          | _ => rw [e] at p; exact p.elim
        · rw [if_neg z] at p; exact p.elim
    | _ => exact p.elim
theorem e_lcB {elt tg iter : Expr} {ifs : List Expr} {scope : Scope} {own : List (Str × Nat)} {pos : Pos} {i : Nat} {g : D → Env → Option Env} {sl : List Nat} {t : MT} {m : ME} (c : XOk X W) (hN : X.N.Nodup) (hi : PE X iter (tVar i)) (ok : BlkOk X.N X.env.scope scope own)
    (hg : ∀ (s : Shared) (H : Hp) (C : Addr) (cl : List (Str × Addr)) (fp : List Addr), PG (X.blk s H scope (compEnvC scope cl C X.env) fp) tg (rdG X.K B sl g)) (ht : ∀ (s : Shared) (H : Hp) (C : Addr) (cl : List (Str × Addr)) (fp : List Addr), PTs (X.blk s H scope (compEnvC scope cl C X.env) fp) ifs (rdT X.K B W0 t))
    (he : ∀ (s : Shared) (H : Hp) (C : Addr) (cl : List (Str × Addr)) (fp : List Addr), XOk (X.blk s H scope (compEnvC scope cl C X.env) fp) W0 → PE (X.blk s H scope (compEnvC scope cl C X.env) fp) elt (rdE X.K B W0 m))
    (hsl : ∀ j ∈ sl, j ∈ own.map (·.2) := by decide) (hio : ioFreeL B (own.map (·.2)) := by first | (intro p hp; cases hp; done) | (intro p hp; simp only [List.mem_cons, List.not_mem_nil, or_false] at hp; rcases hp with rfl | rfl <;> simp) | (intro p hp; simp only [List.mem_cons, List.not_mem_nil, or_false] at hp; subst hp; simp)) (hs : ∀ x, foldedSetIterable iter X.env x = pure x := by intro _; rfl) :
    PE X (.ListComp elt [⟨tg, iter, ifs, 0⟩] scope pos) (rdE X.K B W (eLcB (own.map (·.2)) i g t m)) :=
  PE.imp (pe_lc c.calm hN (pi_list hi) ok hg ht (fun s H C cl fp => he s H C cl fp ⟨takes0, PassesOwn.never, c.calm⟩) hs) (impLcB hsl hio)
theorem s_setLcB {i : Nat} {y : Str} {py : Pos} {elt tg iter : Expr} {ifs : List Expr} {scope : Scope} {own : List (Str × Nat)} {pos spos : Pos} {l : Nat} {g : D → Env → Option Env} {sl : List Nat} {t : MT} {m : ME} (c : XOk X W) (hN : X.N.Nodup) (hy : X.N[i]? = some y) (hyl : X.env.scope.names.lookup y = some .local)
    (hsw : swapsWith (.ListComp elt [⟨tg, iter, ifs, 0⟩] scope pos) (some (.Name y py)) spos.line X.env = pure true) (hi : PE X iter (tVar l)) (ok : BlkOk X.N X.env.scope scope own)
    (hg : ∀ (s : Shared) (H : Hp) (C : Addr) (cl : List (Str × Addr)) (fp : List Addr), PG (X.blk s H scope (compEnvC scope cl C X.env) fp) tg (rdG X.K B sl g)) (ht : ∀ (s : Shared) (H : Hp) (C : Addr) (cl : List (Str × Addr)) (fp : List Addr), PTs (X.blk s H scope (compEnvC scope cl C X.env) fp) ifs (rdT X.K B W0 t))
    (he : ∀ (s : Shared) (H : Hp) (C : Addr) (cl : List (Str × Addr)) (fp : List Addr), XOk (X.blk s H scope (compEnvC scope cl C X.env) fp) W0 → PE (X.blk s H scope (compEnvC scope cl C X.env) fp) elt (rdE X.K B W0 m))
    (hsl : ∀ j ∈ sl, j ∈ own.map (·.2) := by decide) (hio : ioFreeL B (own.map (·.2)) := by first | (intro p hp; cases hp; done) | (intro p hp; simp only [List.mem_cons, List.not_mem_nil, or_false] at hp; rcases hp with rfl | rfl <;> simp) | (intro p hp; simp only [List.mem_cons, List.not_mem_nil, or_false] at hp; subst hp; simp)) (hio2 : ioFree B i := by first | (intro p hp; cases hp; done) | (intro p hp; simp only [List.mem_cons, List.not_mem_nil, or_false] at hp; rcases hp with rfl | rfl <;> simp) | (intro p hp; simp only [List.mem_cons, List.not_mem_nil, or_false] at hp; subst hp; simp)) (hs : ∀ x, foldedSetIterable iter X.env x = pure x := by intro _; rfl) :
    PS X (.Assign [.Name y py] (.ListComp elt [⟨tg, iter, ifs, 0⟩] scope pos) spos) (rdS X.K B W (sAsg (eLcB (own.map (·.2)) l g t m) (gN i))) :=
  PS.imp (ps_setLc c.calm hN hy hyl hsw (pi_list hi) ok hg ht (fun s H C cl fp => he s H C cl fp ⟨takes0, PassesOwn.never, c.calm⟩) hs) fun D σ H ⟨F, τ, vs, ds, s, p⟩ =>
    impLcB hsl hio σ H _ ⟨F, τ, vs, ds, s, post_imp (post_s (σ := σ) p) (fun d τ1 q v F1 H1 s1 => q _ F1 H1 (s1.put' hio2)) fun _ _ q => q⟩
end
end Bn

/-! Parameters that a def changes. -/
namespace Bn
open PySem PySem.Spec PyProof.Rows L2
inductive CR2 where
  | ok (d : D) (outs : List D)
  | bad
def ioL : Nat → List V → List (Nat × V)
  | _, [] => []
  | j, u :: us => (j, u) :: ioL (j + 1) us
/-- the first k parameters are handed to be changed -/
def spIO (K : PySem.W.Frag) (ca : Str → Addr) (k : Nat) (g : List D → CR2) : Sp := fun vs H Q _ => ∃ F f ios rest us ws, vs = us ++ ws ∧ ios.length = k ∧ RepOs K ca F H ios us f ∧ RepL K ca F rest ws ∧ Same F H ∧ (∀ a, f a ≤ 1) ∧ (∀ a, 0 < f a → F a = none) ∧
  match g (ios ++ rest) with
  | .ok d outs => ∀ v F' H' g', Same F F' → Same F' H' → (∀ a o, f a = 0 → H a = some o → H' a = some o) → RepOs K ca F' H' (d :: outs) (v :: us) g' → (∀ a, g' a ≤ 1) → (∀ a, 0 < g' a → F' a = none ∧ (H a = none ∨ 0 < f a)) → (∀ a, F' a ≠ none → F a ≠ none ∨ H a = none ∨ 0 < f a) → Q v H'
  | .bad => False
structure FoI (P : Program) (w : World) (K : PySem.W.Frag) (mg : Str → Option Value) (base : Heap) (ca : Str → Addr) (k : Nat) (x : Str) (m : Nat) (g : List D → CR2) : Prop where
  ex : ∃ f fd ps, mg x = some (.ref f) ∧ PySem.W.keepIn K (.ref f) = true ∧ Binds K fd ps [] ∧ FnOk P w K mg base (L2.CX P w) k f fd ps (spIO K ca m g)
def outsE : Nat → Env → Option (List D)
  | 0, _ => some []
  | _ + 1, [] => none
  | k + 1, o :: τ => match o with
    | none => none
    | some d => (outsE k τ).map (d :: ·)
def outR (k : Nat) (d : D) (τ : Env) : CR2 := match outsE k τ with
  | some os => .ok d os
  | none => .bad
def callFI (n N k : Nat) (b : MS) : List D → CR2 := fun ds => if ds.length = n then (match b (ds.map some ++ List.replicate (N - n) none) with
  | .nx τ => outR k .non τ
  | .rt d τ => outR k d τ
  | _ => .bad) else .bad
section
variable {K : PySem.W.Frag} {ca : Str → Addr} {F H : Hp}
theorem sl_startO {rest : List D} {ws : List V} {k : Nat} (hr : RepL K ca F rest ws) : ∀ {ios : List D} {us : List V} {f : Ct}, RepOs K ca F H ios us f → Sl K ca F H ((ios ++ rest).map some ++ List.replicate k none) ((us ++ ws).map some ++ List.replicate k none) f
  | [], us, f, h => by
    cases (show us = [] from h.1)
    have e : f = fun _ => 0 := funext h.2
    subst e
    exact sl_start hr
  | d :: ds, _, f, ⟨v, r, f1, f2, e, h1, h2, h3⟩ => by
    subst e
    exact ⟨v, _, f1, f2, rfl, h1, sl_startO hr h2, h3⟩
theorem sl_outs : ∀ {k : Nat} {τ : Env} {σ : L2.St} {f : Ct} {os : List D} {us : List V}, Sl K ca F H τ σ f → outsE k τ = some os → us.length = k → σ.take k = us.map some → ∃ g r : Ct, RepOs K ca F H os us g ∧ ∀ b, f b = g b + r b
  | 0, τ, σ, f, os, us, h, e, hl, _ => by
    cases (show some [] = some os from e)
    cases us with
    | nil => exact ⟨fun _ => 0, f, ⟨rfl, fun _ => rfl⟩, fun b => by show f b = 0 + f b; omega⟩
    | cons _ _ => cases hl
  | k + 1, [], σ, f, os, us, h, e, _, _ => by cases e
  | k + 1, none :: τ, σ, f, os, us, h, e, _, _ => by cases e
  | k + 1, some d :: τ, _, f, os, us, ⟨v, r, f1, f2, h1, h2, h3, h4⟩, e, hl, ht => by
    subst h1
    replace e : (outsE k τ).map (d :: ·) = some os := e
    cases e2 : outsE k τ with
    | none => rw [e2] at e; cases e
    | some os' =>
      rw [e2] at e
      cases e
      cases us with
      | nil => cases hl
      | cons u us =>
        rw [List.take_succ_cons, List.map_cons] at ht
        injection ht with ht1 ht2
        cases ht1
        obtain ⟨g, r', k1, k2⟩ := sl_outs h3 e2 (by simpa using hl) ht2
        exact ⟨fun b => f1 b + g b, r', ⟨v, us, f1, g, rfl, h2, k1, fun _ => rfl⟩, fun b => by show f b = f1 b + g b + r' b; rw [h4, k2]; omega⟩
theorem ioL_get : ∀ {us : List V} {j : Nat} {p : Nat × V}, p ∈ ioL j us → j ≤ p.1 ∧ us[p.1 - j]? = some p.2
  | [], _, _, h => by cases h
  | u :: us, j, p, h => by
    rcases List.mem_cons.mp h with rfl | h
    · exact ⟨Nat.le_refl _, by simp⟩
    · obtain ⟨h1, h2⟩ := ioL_get h
      refine ⟨by omega, ?_⟩
      rw [show p.1 - j = (p.1 - (j + 1)) + 1 by omega, List.getElem?_cons_succ]
      exact h2
theorem ioL_mem : ∀ {us : List V} {j i : Nat} {u : V}, us[i]? = some u → (j + i, u) ∈ ioL j us
  | [], _, _, _, h => by simp at h
  | x :: us, j, 0, u, h => by simp at h; subst h; exact List.mem_cons_self
  | x :: us, j, i + 1, u, h => by
    have := ioL_mem (j := j + 1) (i := i) (us := us) (u := u) (by simpa using h)
    rw [show j + 1 + i = j + (i + 1) by omega] at this
    exact List.mem_cons_of_mem _ this
end
section
variable {P : Program} {w : World} {K : PySem.W.Frag} {mg : Str → Option Value} {base : Heap} {ca : Str → Addr}
theorem fn_okIO {x qual : Str} {st : Stmt} {f : Addr} {fd : FuncData} {N ps : List Str} {k m : Nat} {b : MS} (F : Fun K x qual st f fd) (S : FnScope N ps (defScope st)) (hm : m ≤ ps.length)
    (hb : ∀ (cdv : Value) (A : Around) (outer : List PySem.Env) (s : Shared) (H : Hp) (E : XK) (F0 R : Hp) (us : List V), us.length = m → Room k (A.deeper (envOfC qual (defScope st) s.heap.objs.size f cdv)) →
      XOk (cxOf (L2.CX P w) P w K mg base N qual (defScope st) f cdv A outer s H E) (fun cls d _ H => E cls d H) →
      PSs (cxOf (L2.CX P w) P w K mg base N qual (defScope st) f cdv A outer s H E) (defBody st) (rdS K ⟨ca, F0, R, ioL 0 us⟩ (fun cls d _ H => E cls d H) b)) :
    FnOk P w K mg base (L2.CX P w) (k + 1) f fd ps (spIO K ca m (callFI ps.length N.length m b)) := by
  classical
  refine F.okX S (fun vs H Q E h => ?_) (fun cdv A outer s H vs Q E hr h => ?_)
  · obtain ⟨F0, g, ios, rest, us, ws, rfl, _, r1, r2, _, _, _, h⟩ := h
    by_cases e : (ios ++ rest).length = ps.length
    · rw [← e, List.length_append, List.length_append, r1.length, r2.length]
    · unfold callFI at h
      rw [if_neg e] at h
      exact h.elim
  · obtain ⟨F0, g, ios, rest, us, ws, rfl, him, r1, r2, sm, nd, dF, h⟩ := h
    have ul : us.length = m := by rw [r1.length]; exact him
    refine ⟨_, hb cdv A outer s H E F0 (fun a => if 0 < g a then none else H a) us ul hr ⟨takes_of rfl rfl rfl rfl, passes_of rfl, rfl⟩, ?_⟩
    have hl : (ios ++ rest).length = ps.length := by
      by_cases e : (ios ++ rest).length = ps.length
      · exact e
      · unfold callFI at h
        rw [if_neg e] at h
        exact h.elim
    unfold callFI at h
    rw [if_pos hl] at h
    have hstart : L2.start N (us ++ ws) = (us ++ ws).map some ++ List.replicate (N.length - ps.length) none := by
      unfold L2.start
      rw [← hl, List.length_append, List.length_append, r1.length, r2.length]
    have st0 : StT K ⟨ca, F0, (fun a => if 0 < g a then none else H a), ioL 0 us⟩ F0 H (L2.start N (us ++ ws)) ((ios ++ rest).map some ++ List.replicate (N.length - ps.length) none) [] [] := by
      refine ⟨g, fun _ => 0, ?_, ⟨rfl, fun _ => rfl⟩, ⟨fun a => nd a, fun a q => dF a q, fun a q => if_pos q, sm, fun a o e => ?_, Same.refl _, fun a q => .inl q⟩, fun p hp => ?_⟩
      · rw [hstart]; exact sl_startO r2 r1
      · replace e : (if 0 < g a then none else H a) = some o := e
        split at e
        · cases e
        · exact e
      · rw [hstart]
        obtain ⟨_, h2⟩ := ioL_get hp
        rw [Nat.sub_zero] at h2
        have hlt := (List.getElem?_eq_some_iff.mp h2).1
        rw [List.getElem?_append_left (by rw [List.length_map, List.length_append]; omega), List.getElem?_map, List.getElem?_append_left hlt, h2]
        rfl
    refine ⟨F0, _, [], [], st0, ?_⟩
    have done : ∀ (d : D) (τ : Env) (v : V) (σ' : L2.St) (F' H' : Hp), (match outR m d τ with | .ok d outs => ∀ v F' H' g', Same F0 F' → Same F' H' → (∀ a o, g a = 0 → H a = some o → H' a = some o) → RepOs K ca F' H' (d :: outs) (v :: us) g' → (∀ a, g' a ≤ 1) → (∀ a, 0 < g' a → F' a = none ∧ (H a = none ∨ 0 < g a)) → (∀ a, F' a ≠ none → F0 a ≠ none ∨ H a = none ∨ 0 < g a) → Q v H' | .bad => False) → StT K ⟨ca, F0, (fun a => if 0 < g a then none else H a), ioL 0 us⟩ F' H' σ' τ [v] [d] → Q v H' := by
      intro d τ v σ' F' H' h s'
      unfold outR at h
      cases eo : outsE m τ with
      | none => rw [eo] at h; exact h.elim
      | some os =>
        rw [eo] at h
        obtain ⟨f1, f2, hs, ⟨_, _, g1, g2, ee, hv, _, q⟩, w', io⟩ := s'
        cases ee
        have ht : σ'.take m = us.map some := by
          apply List.ext_getElem?
          intro i
          rw [List.getElem?_take, List.getElem?_map]
          split
          · rename_i hi
            have hu : us[i]? = some us[i] := List.getElem?_eq_getElem (by omega)
            have := io _ (ioL_mem (j := 0) hu)
            rw [Nat.zero_add] at this
            rw [this, hu]; rfl
          · rw [List.getElem?_eq_none (by omega)]; rfl
        obtain ⟨g3, r3, k1, k2⟩ := sl_outs hs eo ul ht
        have le : ∀ a, g1 a + g3 a ≤ f1 a + f2 a := fun a => by rw [q, k2]; omega
        refine h v F' H' (fun a => g1 a + g3 a) w'.s0 w'.sF (fun a o e1 e2 => w'.sR a o (by show (if 0 < g a then none else H a) = some o; rw [if_neg (by omega)]; exact e2)) ⟨v, us, g1, g3, rfl, hv, k1, fun _ => rfl⟩ (fun a => Nat.le_trans (le a) (w'.nd a)) (fun a z => ⟨w'.dF a (Nat.lt_of_lt_of_le z (le a)), ?_⟩) fun a z => ?_
        · have := w'.dR a (Nat.lt_of_lt_of_le z (le a))
          replace this : (if 0 < g a then none else H a) = none := this
          split at this
          · exact .inr (by assumption)
          · exact .inl this
        · rcases w'.fr a z with y | y
          · exact .inl y
          · replace y : (if 0 < g a then none else H a) = none := y
            split at y
            · exact .inr (.inr (by assumption))
            · exact .inr (.inl y)
    cases e : b ((ios ++ rest).map some ++ List.replicate (N.length - ps.length) none) with
    | nx τ =>
      rw [e] at h
      intro σ' F' H' s'
      exact done .non τ .non σ' F' H' h (s'.push rfl)
    | rt d τ =>
      rw [e] at h
      intro v σ' F' H' s'
      exact done d τ v σ' F' H' h s'
    | ex c τ => rw [e] at h; exact h.elim
    | bk τ => rw [e] at h; exact h.elim
    | ct τ => rw [e] at h; exact h.elim
    | bad => rw [e] at h; exact h.elim
theorem foI_of {x qual : Str} {st : Stmt} {f : Addr} {fd : FuncData} {ps : List Str} {k m : Nat} {g : List D → CR2} (F : Fun K x qual st f fd) (hm : mg x = some (.ref f)) (hb : Binds K fd ps []) (h : FnOk P w K mg base (L2.CX P w) k f fd ps (spIO K ca m g)) : FoI P w K mg base ca k x m g := ⟨f, fd, ps, hm, F.kp, hb, h⟩
end
/-! ### the call -/
def takeD : List Nat → Env → Option (List D × Env)
  | [], τ => some ([], τ)
  | i :: is, τ => match τ.getD i none with
    | none => none
    | some d => (takeD is (τ.set i none)).map fun p => (d :: p.1, p.2)
def putD : List Nat → List D → Env → Env
  | i :: is, d :: ds, τ => putD is ds (τ.set i (some d))
  | _, _, τ => τ
def callI (g : List D → CR2) (is : List Nat) (ds : List D) (τ1 : Env) : R D := match takeD is τ1 with
  | none => .bad
  | some (ios, τ2) => match g (ios ++ freezeL ds) with
    | .ok d outs => if outs.length = is.length then .ok d (putD is outs τ2) else .bad
    | .bad => .bad
def eCallI (g : List D → CR2) (is : List Nat) (m : MA) : ME := fun τ => if is.all (fun i => (τ.getD i none).isSome) = true then (m τ).bind fun ds τ1 => callI g is ds τ1 else .bad
def tIO : List Nat → TA → TA
  | [], t => t
  | i :: r, t => fun σ H Q => ∃ v, σ[i]? = some (some v) ∧ tIO r t σ H fun us H' => Q (v :: us) H'
section
variable {X : Cx} {B : Bx} {W : WX}
theorem pa_io0 {es : List Expr} {t : TA} (h : PA X es t) : PA X es (tIO [] t) := h
theorem pa_io {e : Expr} {es : List Expr} {i : Nat} {is : List Nat} {t : TA} (he : PE X e (tVar i)) (h : PA X es (tIO is t)) (hs : starEach (e :: es) X.env = (false, eval e X.env) :: starEach es X.env := by rfl) : PA X (e :: es) (tIO (i :: is) t) := pa_cons he h hs
theorem io_vals {F H : Hp} {σ : L2.St} {τ : Env} {vs : List V} {ds : List D} (s : StT X.K B F H σ τ vs ds) : ∀ (is : List Nat), is.all (fun i => (τ.getD i none).isSome) = true → ∃ vals : List V, vals.length = is.length ∧ (∀ (j i : Nat), is[j]? = some i → ∃ v, vals[j]? = some v ∧ σ[i]? = some (some v)) ∧ ∀ (t : TA) (H : Hp) (Q : List V → Hp → Prop), (t σ H fun us H' => Q (vals ++ us) H') → tIO is t σ H Q
  | [], _ => ⟨[], rfl, fun j i h => by simp at h, fun t H Q h => h⟩
  | i :: is, h => by
    rw [List.all_cons, Bool.and_eq_true] at h
    obtain ⟨vals, h1, h2, h3⟩ := io_vals s is h.2
    cases e : τ.getD i none with
    | none => rw [e] at h; cases h.1
    | some d =>
      obtain ⟨v, f, k1, _⟩ := s.get (getD_some e)
      refine ⟨v :: vals, by simp [h1], fun j i' hj => ?_, fun t H Q q => ⟨v, k1, h3 t H _ q⟩⟩
      cases j with
      | zero => simp at hj; subst hj; exact ⟨v, rfl, k1⟩
      | succ j => obtain ⟨w, e1, e2⟩ := h2 j i' (by simpa using hj); exact ⟨w, by simpa using e1, e2⟩
theorem StT.takes {F H : Hp} {σ : L2.St} : ∀ {is : List Nat} {τ τ' : Env} {vs vals : List V} {ds ios : List D}, StT X.K B F H σ τ vs ds → takeD is τ = some (ios, τ') → vals.length = is.length → (∀ (j i : Nat), is[j]? = some i → ∃ v, vals[j]? = some v ∧ σ[i]? = some (some v)) → ios.length = is.length ∧ StT X.K B F H σ τ' (vals ++ vs) (ios ++ ds)
  | [], τ, τ', vs, vals, ds, ios, s, e, hl, _ => by
    cases (show some ([], τ) = some (ios, τ') from e)
    cases vals with
    | nil => exact ⟨rfl, s⟩
    | cons _ _ => cases hl
  | i :: is, τ, τ', vs, vals, ds, ios, s, e, hl, hv => by
    cases e1 : τ.getD i none with
    | none =>
      unfold takeD at e
      rw [e1] at e; cases e
    | some d =>
      unfold takeD at e
      rw [e1] at e
      replace e : (takeD is (τ.set i none)).map (fun p => (d :: p.1, p.2)) = some (ios, τ') := e
      cases e2 : takeD is (τ.set i none) with
      | none => rw [e2] at e; cases e
      | some p =>
        rw [e2] at e
        cases e
        cases vals with
        | nil => cases hl
        | cons v vals =>
          obtain ⟨v', k1, k2⟩ := hv 0 i rfl
          obtain ⟨v2, k3, s1⟩ := s.take (getD_some e1)
          have : v' = v := by simpa using k1.symm
          subst this
          rw [k2] at k3
          cases k3
          obtain ⟨hl2, s2⟩ := StT.takes (vals := vals) (ios := p.1) (τ' := p.2) s1 e2 (by simpa using hl) fun j i' hj => by
            obtain ⟨w, q1, q2⟩ := hv (j + 1) i' (by simpa using hj)
            exact ⟨w, by simpa using q1, q2⟩
          have hl3 : vals.length = p.1.length := by
            have : vals.length = is.length := by simpa using hl
            omega
          exact ⟨by simp [hl2], s2.swap hl3⟩
theorem StT.puts {F H : Hp} {σ : L2.St} {v0 : V} {d0 : D} : ∀ {is : List Nat} {τ : Env} {vs vals : List V} {ds outs : List D}, StT X.K B F H σ τ (v0 :: (vals ++ vs)) (d0 :: (outs ++ ds)) → vals.length = is.length → outs.length = is.length → (∀ (j i : Nat), is[j]? = some i → ∃ v, vals[j]? = some v ∧ σ[i]? = some (some v)) → StT X.K B F H σ (putD is outs τ) (v0 :: vs) (d0 :: ds)
  | [], τ, vs, vals, ds, outs, s, hl, ho, _ => by
    cases vals with
    | nil => cases outs with
      | nil => exact s
      | cons _ _ => cases ho
    | cons _ _ => cases hl
  | i :: is, τ, vs, vals, ds, outs, s, hl, ho, hv => by
    cases vals with
    | nil => cases hl
    | cons v vals => cases outs with
      | nil => cases ho
      | cons d outs =>
        obtain ⟨v', k1, k2⟩ := hv 0 i rfl
        have : v' = v := by simpa using k1.symm
        subst this
        have s1 := StT.swap (us := [v0]) (es := [d0]) s rfl
        have s2 := s1.putBack (i := i) (by rw [← s1.len]; exact (List.getElem?_eq_some_iff.mp k2).1) k2
        have s3 : StT X.K B F H σ (τ.set i (some d)) (v0 :: (vals ++ vs)) (d0 :: (outs ++ ds)) := s2
        show StT X.K B F H σ (putD is outs (τ.set i (some d))) (v0 :: vs) (d0 :: ds)
        exact StT.puts (is := is) (vals := vals) (outs := outs) s3 (by simpa using hl) (by simpa using ho) fun j i' hj => by
          obtain ⟨w, q1, q2⟩ := hv (j + 1) i' (by simpa using hj)
          exact ⟨w, by simpa using q1, q2⟩
theorem StT.calledIO {K : PySem.W.Frag} {F H : Hp} {σ : L2.St} {τ : Env} {vs vals : List V} {ds ios : List D} (hl : vals.length = ios.length) (s : StT K B F H σ τ (vals ++ vs) (ios ++ ds)) : ∃ f : Ct, RepOs K B.ca F H ios vals f ∧ (∀ a, f a ≤ 1) ∧ (∀ a, 0 < f a → F a = none) ∧
    ∀ (F' H' : Hp) (v : V) (d : D) (outs : List D) (g' : Ct), Same F F' → Same F' H' → (∀ a o, f a = 0 → H a = some o → H' a = some o) → RepOs K B.ca F' H' (d :: outs) (v :: vals) g' → (∀ a, g' a ≤ 1) → (∀ a, 0 < g' a → F' a = none ∧ (H a = none ∨ 0 < f a)) → (∀ a, F' a ≠ none → F a ≠ none ∨ H a = none ∨ 0 < f a) → StT K B F' H' σ τ (v :: (vals ++ vs)) (d :: (outs ++ ds)) := by
  obtain ⟨f1, f2, A, b, w, io⟩ := s
  obtain ⟨fi, fr, b1, b2, q⟩ := b.split' hl
  have nd : ∀ a, f1 a + (fi a + fr a) ≤ 1 := fun a => by rw [← q]; exact w.nd a
  refine ⟨fi, b1, fun a => by have := nd a; omega, fun a h => w.dF a (by show 0 < f1 a + f2 a; rw [q]; omega), fun F' H' v d outs g' h1 h2 h3 hv h4 h5 h6 => ?_⟩
  have t1 : ∀ x, 0 < f1 x → H x ≠ none := A.there
  have t2 : ∀ x, 0 < fr x → H x ≠ none := b2.there _ _ _
  have k : ∀ x, H x ≠ none → fi x = 0 → H' x = H x := fun x hx hf => by
    cases e : H x with
    | none => exact absurd e hx
    | some o => exact h3 _ _ hf e
  obtain ⟨_, us', g1, g2, ee, hd, ho, hq⟩ := hv
  cases ee
  refine ⟨f1, fun b => g1 b + (g2 b + fr b), A.mono h1 fun x hx => k x (t1 x hx) (by have := nd x; omega), ⟨v, vals ++ vs, g1, fun b => g2 b + fr b, rfl, hd, ho.append (RepOs.mono h1 _ _ _ (fun x hx => k x (t2 x hx) (by have := nd x; omega)) b2), fun _ => rfl⟩, ?_, io⟩
  have old : ∀ x, 0 < f1 x + fr x → F' x = none := fun x hx => by
    have hF := w.dF x (by show 0 < f1 x + f2 x; rw [q]; omega)
    cases e : F' x with
    | none => rfl
    | some o =>
      rcases h6 x (by rw [e]; exact fun z => by cases z) with z | z | z
      · exact absurd hF z
      · by_cases y : 0 < f1 x
        · exact absurd z (t1 x y)
        · exact absurd z (t2 x (by omega))
      · have := nd x; omega
  refine ⟨fun x => ?_, fun x hx => ?_, fun x hx => ?_, h2, fun x o e => h3 x o ?_ (w.sR x o e), w.s0.trans h1, fun x hx => ?_⟩
  · show f1 x + (g1 x + (g2 x + fr x)) ≤ 1
    have g4 := h4 x
    rw [hq] at g4
    by_cases y : 0 < g1 x + g2 x
    · rcases (h5 x (by rw [hq]; exact y)).2 with z | z
      · have : ¬ 0 < f1 x := fun e => t1 x e z
        have : ¬ 0 < fr x := fun e => t2 x e z
        omega
      · have := nd x; omega
    · have := nd x; omega
  · replace hx : 0 < f1 x + (g1 x + (g2 x + fr x)) := hx
    by_cases y : 0 < g1 x + g2 x
    · exact (h5 x (by rw [hq]; exact y)).1
    · exact old x (by omega)
  · replace hx : 0 < f1 x + (g1 x + (g2 x + fr x)) := hx
    by_cases y : 0 < g1 x + g2 x
    · rcases (h5 x (by rw [hq]; exact y)).2 with z | z
      · cases e : B.R x with
        | none => rfl
        | some o => rw [w.sR _ _ e] at z; cases z
      · exact w.dR x (by show 0 < f1 x + f2 x; rw [q]; omega)
    · exact w.dR x (by show 0 < f1 x + f2 x; rw [q]; omega)
  · by_cases y : 0 < fi x
    · have := w.dR x (by show 0 < f1 x + f2 x; rw [q]; omega)
      rw [this] at e; cases e
    · omega
  · rcases h6 x hx with z | z | z
    · exact w.fr x z
    · right
      cases e : B.R x with
      | none => rfl
      | some o => rw [w.sR _ _ e] at z; cases z
    · exact .inr (w.dR x (by show 0 < f1 x + f2 x; rw [q]; omega))
theorem e_callI {x : Str} {p pos : Pos} {e : Expr} {es : List Expr} {m : MA} {g : List D → CR2} {k j n : Nat} {is : List Nat} (c : XOk X W) (G : FoI X.prog X.w X.K X.mg X.base B.ca k x n g) (hr : Room j X.A) (hg : Gl X x) (ha : PA X (e :: es) (tIO is (rdA X.K B W m))) (hn : is.length = n := by rfl) (hk : k ≤ j := by decide) (hdb : (x == ("__debug__" : Str)) = false := by decide)
    (he : starEach (e :: es) X.env = (false, eval e X.env) :: starEach es X.env := by rfl) (hpl : (backTo pos (starEach es X.env)).any (·.1) = false := by rfl) : PE X (.Call (.Name x p) (e :: es) [] pos) (rdE X.K B W (eCallI g is m)) := by
  obtain ⟨f, fd, ps, h1, h2, h3, h4⟩ := G.ex
  refine PE.imp (pe_callS h4 (hr.mono hk) hg h1 h2 h3 (fun σ => passAt c.tk σ) ha hdb he hpl) fun σ H Q h => ?_
  obtain ⟨F, τ, vs, ds, s, p⟩ := h
  unfold eCallI at p
  by_cases z : is.all (fun i => (τ.getD i none).isSome) = true
  · rw [if_pos z] at p
    obtain ⟨vals, v1, v2, v3⟩ := io_vals s is z
    refine v3 _ H _ ⟨F, τ, vs, ds, s, post_imp (post_bind p) (fun as τ1 q us F1 H1 hl s1 => ?_) fun _ _ q => q⟩
    obtain ⟨F2, sm, rl, s2⟩ := s1.freeze hl
    unfold callI at q
    cases et : takeD is τ1 with
    | none => rw [et] at q; exact q.elim
    | some pr =>
      obtain ⟨ios, τ2⟩ := pr
      rw [et] at q
      replace q : post _ _ (match g (ios ++ freezeL as) with | .ok d outs => if outs.length = is.length then R.ok d (putD is outs τ2) else R.bad | .bad => R.bad) := q
      obtain ⟨il, s3⟩ := s2.takes et v1 v2
      have hvl : vals.length = ios.length := by omega
      cases eg : g (ios ++ freezeL as) with
      | bad => rw [eg] at q; exact q.elim
      | ok d outs =>
        rw [eg] at q
        replace q : post _ _ (if outs.length = is.length then R.ok d (putD is outs τ2) else R.bad) := q
        by_cases ol : outs.length = is.length
        · rw [if_pos ol] at q
          obtain ⟨f0, r0, n0, d0, fin⟩ := StT.calledIO hvl s3
          refine ⟨F2, f0, ios, freezeL as, vals, us, rfl, by omega, r0, rl, s3.same, n0, d0, ?_⟩
          rw [eg]
          intro v F' H' g' a1 a2 a3 a4 a5 a6 a7
          exact q v F' H' (StT.puts (fin F' H' v d outs g' a1 a2 a3 a4 a5 a6 a7) v1 ol v2)
        · rw [if_neg ol] at q; exact q.elim
  · rw [if_neg z] at p; exact p.elim
/-! ### a, b = x, y -/
def sPar (i j : Nat) (m : MA) : MS := fun τ => (m τ).s fun ds τ1 => match ds with
  | [x, y] => .nx ((τ1.set i (some x)).set j (some y))
  | _ => .bad
theorem s_par {i j : Nat} {x y : Str} {a b : Expr} {m : MA} {px py pt pos : Pos} {kt k2 pt2} (c : XOk X W) (hN : X.N.Nodup) (hi : X.N[i]? = some x) (hj : X.N[j]? = some y) (hij : i ≠ j)
    (hx : X.env.scope.names.lookup x = some .local) (hy : X.env.scope.names.lookup y = some .local) (ha : PA X [a, b] (rdA X.K B W m))
    (hw : swappedStores [.Tuple [.Name x px, .Name y py] kt pt] (.Tuple [a, b] k2 pt2) X.env = pure (some [x, y]) := by rfl)
    (hs : swapsWithSole [.Tuple [.Name x px, .Name y py] kt pt] (.Tuple [a, b] k2 pt2) pos.line X.env = pure false := by rfl)
    (h1 : ioFree B i := by first | (intro p hp; cases hp; done) | (intro p hp; simp only [List.mem_cons, List.not_mem_nil, or_false] at hp; rcases hp with rfl | rfl <;> simp) | (intro p hp; simp only [List.mem_cons, List.not_mem_nil, or_false] at hp; subst hp; simp))
    (h2 : ioFree B j := by first | (intro p hp; cases hp; done) | (intro p hp; simp only [List.mem_cons, List.not_mem_nil, or_false] at hp; rcases hp with rfl | rfl <;> simp) | (intro p hp; simp only [List.mem_cons, List.not_mem_nil, or_false] at hp; subst hp; simp)) :
    PS X (.Assign [.Tuple [.Name x px, .Name y py] kt pt] (.Tuple [a, b] k2 pt2) pos) (rdS X.K B W (sPar i j m)) :=
  PS.imp (ps_par c.calm hN hi hj hij hx hy ha hw hs) fun D σ H ⟨F, τ, vs, ds, s, p⟩ =>
    ⟨F, τ, vs, ds, s, post_imp (post_s (σ := σ) p) (fun es τ1 q us F1 H1 hl s1 => by
      match es, us, hl, s1, q with
      | [d1, d2], [v, w], _, s1, q =>
        refine ⟨v, w, rfl, ?_⟩
        have s2 : StT X.K B F1 H1 σ τ1 (v :: w :: vs) (d1 :: d2 :: ds) := s1
        exact q _ F1 H1 ((s2.put' h1).put' h2)
      | [], _, _, _, q => exact q.elim
      | [_], _, _, _, q => exact q.elim
      | _ :: _ :: _ :: _, _, _, _, q => exact q.elim) fun _ _ q => q⟩
/-! ### sorted, of ints -/
def insI (x : Int) : List Int → List Int
  | [] => [x]
  | y :: r => if x ≤ y then x :: y :: r else y :: insI x r
def sortI : List Int → List Int
  | [] => []
  | x :: r => insI x (sortI r)
theorem insI_perm (x : Int) : ∀ r : List Int, (insI x r).Perm (x :: r)
  | [] => List.Perm.refl _
  | y :: r => by
    unfold insI
    split
    · exact List.Perm.refl _
    · exact ((insI_perm x r).cons y).trans (List.Perm.swap x y r)
theorem sortI_perm : ∀ r : List Int, (sortI r).Perm r
  | [] => List.Perm.refl _
  | x :: r => (insI_perm x (sortI r)).trans ((sortI_perm r).cons x)
theorem insI_sorted (x : Int) : ∀ r : List Int, r.Pairwise (· ≤ ·) → (insI x r).Pairwise (· ≤ ·)
  | [], _ => by simp [insI]
  | y :: r, h => by
    obtain ⟨h1, h2⟩ := List.pairwise_cons.mp h
    unfold insI
    split
    · rename_i q
      refine List.pairwise_cons.mpr ⟨fun z hz => ?_, h⟩
      rcases List.mem_cons.mp hz with rfl | hz
      · exact q
      · exact Int.le_trans q (h1 z hz)
    · rename_i q
      refine List.pairwise_cons.mpr ⟨fun z hz => ?_, insI_sorted x r h2⟩
      rcases List.mem_cons.mp ((insI_perm x r).mem_iff.mp hz) with rfl | hz
      · omega
      · exact h1 z hz
theorem sortI_sorted : ∀ r : List Int, (sortI r).Pairwise (· ≤ ·)
  | [] => List.Pairwise.nil
  | x :: r => insI_sorted x _ (sortI_sorted r)
theorem sorted_eq : ∀ {a b : List Int}, a.Perm b → a.Pairwise (· ≤ ·) → b.Pairwise (· ≤ ·) → a = b
  | [], b, h, _, _ => h.nil_eq
  | x :: a, [], h, _, _ => absurd h.symm (by simp)
  | x :: a, y :: b, h, ha, hb => by
    obtain ⟨a1, a2⟩ := List.pairwise_cons.mp ha
    obtain ⟨b1, b2⟩ := List.pairwise_cons.mp hb
    have e : x = y := by
      have h1 : x ∈ y :: b := h.mem_iff.mp List.mem_cons_self
      have h2 : y ∈ x :: a := h.mem_iff.mpr List.mem_cons_self
      rcases List.mem_cons.mp h1 with e | e
      · exact e
      · rcases List.mem_cons.mp h2 with e2 | e2
        · exact e2.symm
        · have := b1 x e; have := a1 y e2; omega
    subst e
    rw [sorted_eq (List.Perm.cons_inv h) a2 b2]
def eSorted (m : MA) : ME := fun τ => (m τ).bind fun ds τ1 => match freezeL ds with
  | [.lst _ es] => (match intsOf es with
    | some ns => .ok (.lst true ((sortI ns).map D.int)) τ1
    | none => .bad)
  | _ => .bad
theorem repL_intsOf {K : PySem.W.Frag} {ca : Str → Addr} {F : Hp} : ∀ {es : List D} {us : List V} {ns : List Int}, RepL K ca F es us → intsOf es = some ns → us = ns.map V.int
  | [], us, ns, h, e => by
    cases (show some [] = some ns from e)
    exact h
  | d :: es, us, ns, ⟨v, r, e1, h1, h2⟩, e => by
    subst e1
    cases d with
    | int i =>
      cases e2 : intsOf es with
      | none =>
        unfold intsOf at e
        rw [e2] at e; cases e
      | some ms =>
        unfold intsOf at e
        rw [e2] at e
        cases (show some (i :: ms) = some ns from e)
        rw [repL_intsOf h2 e2, (show v = .int i from h1)]
        rfl
    | _ => cases e
theorem repL_int {K : PySem.W.Frag} {ca : Str → Addr} {F : Hp} : ∀ ns : List Int, RepL K ca F (ns.map D.int) (ns.map V.int)
  | [] => rfl
  | i :: r => ⟨.int i, r.map V.int, rfl, rfl, repL_int r⟩
theorem e_sorted {x : Str} {p pos : Pos} {e : Expr} {m : MA} (hg : Gl X x) (hm : X.mg x = none) (hv : bootBuiltins x = some (.builtin "sorted")) (ha : PA X [e] (rdA X.K B W m)) (hn : x ≠ "__name__" := by decide) (hdb : (x == ("__debug__" : Str)) = false := by decide)
    (he : starEach [e] X.env = (false, eval e X.env) :: starEach [] X.env := by rfl) (hpl : (backTo pos (starEach [] X.env)).any (·.1) = false := by rfl) : PE X (.Call (.Name x p) [e] [] pos) (rdE X.K B W (eSorted m)) := PE.imp (pe_callB cr_sortedI hg hm hv ha hn hdb he hpl) fun σ H Q ⟨F, τ, vs, ds, s, p⟩ => by
  refine ⟨F, τ, vs, ds, s, post_imp (post_bind p) (fun es τ1 q us F1 H1 hl s1 => ?_) fun _ _ q => q⟩
  obtain ⟨F2, sm, rl, s2⟩ := s1.freeze hl
  match h : freezeL es, q, rl with
  | [.lst b xs], q, rl =>
    obtain ⟨v, r, rfl, r1, r2⟩ := rl
    cases (show r = [] from r2)
    cases b with
    | true => exact r1.elim
    | false =>
      obtain ⟨a, ws, rfl, h1, h2⟩ := r1
      replace q : post _ _ (match intsOf xs with | some ns => R.ok (D.lst true ((sortI ns).map D.int)) τ1 | none => R.bad) := q
      cases ei : intsOf xs with
      | none => rw [ei] at q; exact q.elim
      | some ns =>
        rw [ei] at q
        have ew := repL_intsOf h2 ei
        subst ew
        refine ⟨a, ns, rfl, sqOf (s2.same _ _ h1), fun ns' l p1 p2 hp => ?_⟩
        have en : ns' = sortI ns := sorted_eq (p1.trans (sortI_perm ns).symm) p2 (sortI_sorted ns)
        subst en
        have hk : RepL X.K B.ca F2 ((sortI ns).map D.int) ((sortI ns).map V.int) := repL_int _
        exact q _ _ _ ((s2.pushL hk).newLst hk.length hp)
  | [], q, _ => exact q.elim
  | [.non], q, _ => exact q.elim
  | [.bl _], q, _ => exact q.elim
  | [.int _], q, _ => exact q.elim
  | [.str _], q, _ => exact q.elim
  | [.ty _], q, _ => exact q.elim
  | [.tup _], q, _ => exact q.elim
  | [.cst _], q, _ => exact q.elim
  | [.obj _ _ _ _], q, _ => exact q.elim
  | a :: _ :: _, q, _ => cases a <;> exact q.elim
/-! ### xs.index(x) -/
def findP (d : PyData) : List PyData → Nat → Option Nat
  | [], _ => none
  | z :: r, k => if PyData.eqv z d = true then some k else findP d r (k + 1)
theorem findP_ok {d : PyData} : ∀ {ds : List PyData} {k j : Nat}, findP d ds k = some j → k ≤ j ∧ (∃ z, ds[j - k]? = some z ∧ PyData.eqv z d = true) ∧ ∀ (m : Nat) (z : PyData), m < j - k → ds[m]? = some z → PyData.eqv z d = false
  | [], _, _, e => by cases e
  | z :: r, k, j, e => by
    unfold findP at e
    by_cases q : PyData.eqv z d = true
    · rw [if_pos q] at e
      cases e
      exact ⟨Nat.le_refl _, ⟨z, by simp, q⟩, fun m z h => by omega⟩
    · rw [if_neg q] at e
      obtain ⟨h1, ⟨w, h2, h3⟩, h4⟩ := findP_ok e
      refine ⟨by omega, ⟨w, ?_, h3⟩, fun m y hm hy => ?_⟩
      · rw [show j - k = (j - (k + 1)) + 1 by omega, List.getElem?_cons_succ]; exact h2
      · cases m with
        | zero => simp at hy; subst hy; simpa using q
        | succ m => exact h4 m y (by omega) (by simpa using hy)
def gIndex (b a : D) : Option D := match b with
  | .lst m xs => if okP a = true ∧ okP (.lst m xs) = true then (findP (toP a) (toPs xs) 0).map fun j => .int (j : Nat) else none
  | _ => none
theorem z_index {k : Nat} {o e : Expr} {apos cpos : Pos} {m n : MZ} (hr : Room k X.A) (ho : PE X o (rdZ X.K B m)) (he : PE X e (rdZ X.K B n))
    (hbase : attributeBase o "index" X.env (eval o X.env) = eval o X.env := by rfl)
    (hfew : ((backTo cpos (starEach [e] X.env)).all (fun x => !x.1) && (backToKw cpos (keywordEach [] X.env)).all (fun x => x.1.isSome)
      && decide ([e].length + ([] : List Keyword).length + (if ([] : List Keyword).isEmpty then 0 else 1) < 30)) = true := by rfl)
    (hline : (apos.endLine == cpos.line) = true := by rfl) (hs : starEach [e] X.env = (false, eval e X.env) :: starEach [] X.env := by rfl) (hplain : (backTo cpos (starEach [] X.env)).any (·.1) = false := by rfl) :
    PE X (.Call (.Attribute o "index" apos) [e] [] cpos) (rdZ X.K B (z2 gIndex m n)) :=
  PE.imp (pe_bm PySem.F.plainAttrs_list PySem.F.slot_list_index PySem.F.type_list_index (mt_indexD (units65 hr)) ho (pa_cons he pa_nil hs) hbase hfew hline hs hplain) fun σ H Q ⟨F, τ, vs, ds, s, d, e, q⟩ => by
    obtain ⟨b, eb, e⟩ := bind_some e
    obtain ⟨a, ea, e⟩ := bind_some e
    refine ⟨F, τ, vs, ds, s, b, eb, fun x f1 hx => ?_⟩
    cases b with
    | lst mm xs =>
      replace e : (if okP a = true ∧ okP (.lst mm xs) = true then (findP (toP a) (toPs xs) 0).map (fun j => D.int (j : Nat)) else none) = some d := e
      by_cases c : okP a = true ∧ okP (.lst mm xs) = true
      · rw [if_pos c] at e
        cases ef : findP (toP a) (toPs xs) 0 with
        | none => rw [ef] at e; cases e
        | some j =>
          rw [ef] at e
          cases e
          have c1 := c.1
          have c2 := c.2
          unfold okP at c1 c2
          rw [Bool.and_eq_true] at c1 c2
          have hD := RepO.dp (K := X.K) s.same _ x f1 c2.1 hx
          have hx' : ∃ a us, x = .ref a ∧ SqL X.K H a us := by
            cases mm with
            | true => obtain ⟨a, us, g, rfl, h2, _⟩ := hx; exact ⟨a, us, rfl, sqOf h2⟩
            | false => obtain ⟨⟨a, us, rfl, h2, _⟩, _⟩ := hx; exact ⟨a, us, rfl, sqOf (s.same _ _ h2)⟩
          obtain ⟨ad, us, rfl, hsq⟩ := hx'
          refine ⟨.inl ⟨rfl, us, hsq⟩, F, τ, vs, ds, s, a, ea, fun y f2 hy => ?_⟩
          obtain ⟨_, ⟨z, k1, k2⟩, k3⟩ := findP_ok ef
          exact ⟨ad, y, toP a, toPs xs, j, z, rfl, rfl, hD, RepO.dp s.same a y f2 c1.1 hy, c2.2, c1.2, k1, k2, k3, q (.int (j : Nat)) _ (Rep.o (d := .int (j : Nat)) rfl)⟩
      · rw [if_neg c] at e; cases e
    | _ => cases e
/-! ### products by a small number -/
instance decCMul {i j : Int} : Decidable (CMul i j) := by unfold CMul; infer_instance
def gMulS : D → D → Option D := gIC CMul fun i j => .int (i * j)
theorem sMulS {K : PySem.W.Frag} : OpS K (rI CMul fun i j => .int (i * j)) gMulS := opS_IC fun _ _ _ _ => rfl
/-! ### is, of truths -/
def gIsB : D → D → Option D
  | .bl a, .bl b => some (.bl (decide (a = b)))
  | _, _ => none
theorem sIsB {K : PySem.W.Frag} : OpS K (fun x y H Q => ∃ a b, x = .bl a ∧ y = .bl b ∧ Q (.bl (decide (a = b))) H) gIsB := by
  intro ca F H x y a b d f1 f2 Q sm hx hy e q
  cases a with
  | bl i => cases b with
    | bl j =>
      cases (show some (D.bl (decide (i = j))) = some d from e)
      exact ⟨i, j, hx.1, hy.1, q (.bl _) _ (Rep.o (d := .bl _) rfl)⟩
    | _ => cases e
  | _ => cases e
end
end Bn

/-! list(reversed(xs)); clear, pop, insert. -/
namespace Bn
open PySem PySem.Spec PyProof.Rows L2
section
variable {prog : Program} {w : World} {A : Around} {E : Value → Shared → Prop} {s : Shared}
theorem extend_rev {R : Result → Shared → Prop} (hh : A.handled = none) {it l S : Addr} {items : Array Value} (res : Value) (c₀ : Nat) (hS : s.heap.get? S = some { cls := .type "list", data := .seq #[] c₀ })
    (hit : s.heap.IsRevIter it l ((items.size : Int) - 1)) (hl : s.heap.IsList l items) (hne : l ≠ it) (hSi : S ≠ it) (hSl : S ≠ l) (hn : items.size ≤ sizeLine)
    (hR : ∀ h' tk acc' c', (∀ b o, b ≠ S → b ≠ it → s.heap.get? b = some o → h'.get? b = some o) → h'.get? S = some { cls := .type "list", dict := none, data := .seq acc' c', slots := #[] } →
      ItemsOf (fun i v => items[items.size - 1 - i]? = some v) acc' items.size → R (.ok (.ret res)) { s with heap := h', toks := tk }) :
    wpAny (model prog w) A.in1 (Builtin.List.listExtendWith (.ref S) (.ref it) res)
      (fun fin s' => match fin with | .done f => R (.ok f) s' | .again c' => c'.quiet = true ∧ codeAny (model prog w) A c' R s') (fun e s' => R (.error e) s') s := by
  have W := (Walks.listRev (prog := prog) (w := w) (A := A.in1) hh it l hne items).toS
  have hSf : S ∉ [it, l] := by simp only [List.mem_cons, List.not_mem_nil, or_false, not_or]; exact ⟨hSi, hSl⟩
  have hT : s.TypeIs (.ref it) "list_reverseiterator" := Heap.IsRevIter.typeIs hit
  have h1 : Builtin.List.listSameRef (.ref S) (.ref it) = false := by simp [Builtin.List.listSameRef, hSi]
  unfold Builtin.List.listExtendWith
  refine wpAny_bind (wpAny_typeOf hT ?_)
  rw [if_neg (by rw [h1]; decide)]
  refine wpAny_bind (wpAny_pyIter_revIter hit ?_)
  refine wpAny_bind (wpAny_holding ?_)
  unfold Builtin.List.listLengthHint
  refine wpAny_bind (wpAny_specialOf hT RT.nolen_lri ?_)
  show wpAny _ A.in1 (specialOf (Value.ref it) (Str.ofString "__length_hint__") >>= _) _ _ _
  refine wpAny_bind (wpAny_specialOf hT RT.hint_lri ?_)
  generalize hid : ("list_reverseiterator.__length_hint__" : String) = id0
  wp_delta
  rw [show splitId id0 = some ("list_reverseiterator", "__length_hint__") from by subst hid; decide +kernel]
  subst hid
  refine wpAny_bind (wpAny_isInstance (b := true) hT (by rw [isSubtype_type]; kernel_rfl) ?_)
  refine wpAny_pure ?_
  rw [if_neg (by decide)]
  have e0 : ((items.size : Nat) : Int) - 1 - ((0 : Nat) : Int) = (items.size : Int) - 1 := by omega
  refine wpAny_pure ⟨plainId_quiet F.plain_extend_loop _, codeAny_extend_loopS W hn _ hSf _ items.size 0 _ _ _ rfl (Nat.zero_le _) ⟨Nat.zero_le _, by rw [e0]; exact hit, hl⟩ hS (ItemsOf.nil _) fun s' acc' c' hm hS' hacc => ?_⟩
  rw [Moved.eq_with hm]
  obtain ⟨ol, hol, _⟩ := id hl
  refine hR s'.heap s'.toks acc' c' (fun b o hb hbi e => hm.heap b o (fun hmem => ?_) e) hS' hacc
  rcases List.mem_cons.mp hmem with e' | hmem
  · exact hb e'
  · exact hbi (List.mem_singleton.mp hmem)
theorem list_init_rev {R : Result → Shared → Prop} (hh : A.handled = none) {it l S : Addr} {items : Array Value} (hS : s.heap.get? S = some { cls := .type "list", data := .seq #[] })
    (hit : s.heap.IsRevIter it l ((items.size : Int) - 1)) (hl : s.heap.IsList l items) (hne : l ≠ it) (hSi : S ≠ it) (hSl : S ≠ l) (hn : items.size ≤ sizeLine)
    (hR : ∀ h' tk acc' c', (∀ b o, b ≠ S → b ≠ it → s.heap.get? b = some o → h'.get? b = some o) → h'.get? S = some { cls := .type "list", dict := none, data := .seq acc' c', slots := #[] } →
      ItemsOf (fun i v => items[items.size - 1 - i]? = some v) acc' items.size → R (.ok (.ret .none)) { s with heap := h', toks := tk }) :
    wpAny (model prog w) A.in1 (Builtin.«list.__init__» ⟨[.ref S, .ref it], []⟩)
      (fun fin s' => match fin with | .done f => R (.ok f) s' | .again c' => c'.quiet = true ∧ codeAny (model prog w) A c' R s') (fun e s' => R (.error e) s') s := by
  show wpAny _ _ (do let old ← Builtin.List.listItems (.ref S); Builtin.List.listUpdate (.ref S) (fun _ => #[]); letGo old.toList.reverse; Builtin.List.listExtendWith (.ref S) (.ref it) .none) _ _ s
  refine wpAny_bind ?_
  unfold Builtin.List.listItems
  refine wpAny_bind (wpAny_seqItems hS rfl (wpAny_pure ?_))
  show wpAny _ _ (updateSeq S (fun _ => #[]) >>= fun _ => letGo (#[] : Array Value).toList.reverse >>= fun _ => Builtin.List.listExtendWith (.ref S) (.ref it) .none) _ _ s
  refine wpAny_bind (wpAny_updateSeq hS rfl ?_)
  have hS₂ := Heap.get?_update_self (Obj.mapSeq (fun _ => (#[] : Array Value))) hS rfl
  have oth : ∀ b o, b ≠ S → s.heap.get? b = some o → (s.heap.update S (Obj.mapSeq (fun _ => (#[] : Array Value)))).get? b = some o :=
    fun b o hb e => (Heap.get?_update_other _ _ (Ne.symm hb)).trans e
  refine wpAny_bind (wpAny_letGo ?_)
  obtain ⟨oi, hoi, ci, di⟩ := id hit
  obtain ⟨ol, hol, cl, nl, dl⟩ := id hl
  refine extend_rev (s := { s with heap := s.heap.update S (Obj.mapSeq (fun _ => (#[] : Array Value))) }) hh .none _ hS₂ ⟨oi, oth _ _ (Ne.symm hSi) hoi, ci, di⟩ ⟨ol, oth _ _ (Ne.symm hSl) hol, cl, nl, dl⟩ hne hSi hSl hn fun h' tk acc' c' hk hS' hacc => ?_
  exact hR h' tk acc' c' (fun b o hb hbi e => hk b o hb hbi (oth b o hb e)) hS' hacc
theorem call_list_rev {it l : Addr} {items : Array Value} {Q : Value → Shared → Prop} (hh : A.handled = none) (hit : s.heap.IsRevIter it l ((items.size : Int) - 1)) (hl : s.heap.IsList l items) (hne : l ≠ it) (hn : items.size ≤ sizeLine)
    (hQ : ∀ h' tk acc' c', (∀ b o, b ≠ it → s.heap.get? b = some o → h'.get? b = some o) →
      h'.get? s.heap.objs.size = some { cls := .type "list", dict := none, data := .seq acc' c', slots := #[] } → ItemsOf (fun i v => items[items.size - 1 - i]? = some v) acc' items.size → Q (.ref s.heap.objs.size) { s with heap := h', toks := tk }) :
    wpAny (model prog w) A (call (.type "list") [.ref it]) Q E s := by
  refine callType_codes (Q₁ := fun obj s₁ => obj = .ref s.heap.objs.size ∧ s₁ = { s with heap := s.heap.push { cls := .type "list", data := .seq #[] } }) PySem.F.called_list (PySem.F.typeCall_list_1 _) PySem.F.entry_list_init
    (code_list_new _ ⟨rfl, rfl⟩) fun obj s₁ h₁ => ?_
  obtain ⟨rfl, rfl⟩ := h₁
  have hS : (s.heap.push { cls := .type "list", data := .seq #[] }).get? s.heap.objs.size = some { cls := .type "list", data := .seq #[] } := Heap.get?_push_size _ rfl
  obtain ⟨oi, hoi, ci, di⟩ := id hit
  obtain ⟨ol, hol, cl, nl, dl⟩ := id hl
  refine ⟨⟨_, hS, rfl⟩, PySem.F.args_list_init_2 _ _, list_init_rev (s := { s with heap := s.heap.push { cls := .type "list", data := .seq #[] } }) (A := A.in1) hh hS ⟨oi, Heap.get?_push_of_some _ hoi, ci, di⟩ (hl.push _) hne (Nat.ne_of_gt (Heap.lt_size hoi)) (Nat.ne_of_gt (Heap.lt_size hol)) hn (fun h' tk acc' c' hk hS' hacc => ?_)⟩
  exact ⟨rfl, hQ h' tk acc' c' (fun b o hb e => hk b o (Nat.ne_of_lt (Heap.lt_size e)) hb (Heap.get?_push_of_some _ e)) hS' hacc⟩
end
/-- list(reversed(x)), x a list: a new list -/
def tLstRev (K : PySem.W.Frag) (te : TE) : TE := fun σ H Q => te σ H fun v H1 => ∃ (a : Addr) (xs : List V), v = .ref a ∧ SqL K H1 a xs ∧ ∀ q, H1 q = none → Q (.ref q) (upd H1 q (.lst xs.reverse))
section
variable {X : Cx}
theorem pe_lstRev {e : Expr} {te : TE} {p p2 pos pos2 : Pos} (hc : X.calm = true) (hg : Gl X "list") (hm : X.mg "list" = none) (hg2 : Gl X "reversed") (hm2 : X.mg "reversed" = none) (he : PE X e te)
    (hs : starEach [e] X.env = (false, eval e X.env) :: starEach [] X.env := by rfl)
    (hs2 : starEach [.Call (.Name "reversed" p2) [e] [] pos2] X.env = (false, eval (.Call (.Name "reversed" p2) [e] [] pos2) X.env) :: starEach [] X.env := by rfl) :
    PE X (.Call (.Name "list" p) [.Call (.Name "reversed" p2) [e] [] pos2] [] pos) (tLstRev X.K te) := by
  refine ⟨fun pins s σ H Q I h => ?_⟩
  refine Call_ (ld_blt I hg hm boot_list (PyProof.Rows.callWith_type1 (args_cons (Call_ (ld_blt I hg2 hm2 PyProof.Rows.boot_reversed (PyProof.Rows.callWith_type1 (args_cons (thn (he.run pins s σ H _ I h) fun u s1 ⟨v, H1, I1, r1, q1⟩ => args_nil ?_) hs) hs rfl))) hs2) hs2 rfl))
  obtain ⟨a, xs, ev, hq, q⟩ := q1
  subst ev
  obtain rfl : u = Value.ref a := r1
  obtain ⟨its, rv, p', hz⟩ := I1.list hq
  refine call_reversed_list p'.isList (args_nil ?_)
  have k0 : ∀ b o, s1.heap.get? b = some o → (s1.heap.push (revObj a ((its.toArray.size : Int) - 1))).get? b = some o := fun b o e => Heap.get?_push_of_some _ e
  have I2 : Inv X pins σ H1 { s1 with heap := s1.heap.push (revObj a ((its.toArray.size : Int) - 1)) } := I1.kept (t' := s1.toks) k0
  obtain ⟨f0, f1, f2, f3, f4, f5⟩ := I1.fpOk (H' := H1) (b := s1.heap.objs.size) (Nat.le_refl _) (I1.hok.fresh (Nat.le_refl _))
  have hl := p'.isList
  obtain ⟨ol, hol, _⟩ := id hl
  have hne : a ≠ s1.heap.objs.size := Nat.ne_of_lt (Heap.lt_size hol)
  have hn : its.toArray.size ≤ sizeLine := by rw [List.size_toArray, ← rv.length]; exact hz
  refine call_list_rev (s := { s1 with heap := s1.heap.push (revObj a ((its.toArray.size : Int) - 1)) }) (I1.ok.hd hc) ⟨_, Heap.get?_push_size _ rfl, rfl, rfl⟩ (hl.push _) hne hn fun h' tk acc c' hk hS' hi => ?_
  have hle : s1.heap.objs.size ≤ (s1.heap.push (revObj a ((its.toArray.size : Int) - 1))).objs.size := by
    show s1.heap.objs.size ≤ (s1.heap.objs.push _).size
    rw [Array.size_push]; omega
  refine ⟨.ref (s1.heap.push (revObj a ((its.toArray.size : Int) - 1))).objs.size, upd H1 (s1.heap.push (revObj a ((its.toArray.size : Int) - 1))).objs.size (.lst xs.reverse), I1.laid (t' := tk) (fun b o e => hk b o (Nat.ne_of_lt (Heap.lt_size e)) (k0 b o e)) hle (show ObjOk X.prog X.w _ h' _ (.lst xs.reverse) from ⟨by rw [List.length_reverse]; exact hz, acc.toList, c', RT.vals_rev rv hi, ?_⟩), rfl, q _ (I1.hok.fresh hle)⟩
  rw [Array.toArray_toList]
  exact hS'
end

section
variable {X : Cx} {B : Bx} {W : WX}
def eLstRev (m : ME) : ME := fun τ => (m τ).bind fun d τ1 => match freeze d with
  | .lst _ es => .ok (.lst true es.reverse) τ1
  | _ => .bad
theorem RepL.app {K : PySem.W.Frag} {ca : Str → Addr} {F : Hp} : ∀ {ds es : List D} {vs us : List V}, RepL K ca F ds vs → RepL K ca F es us → RepL K ca F (ds ++ es) (vs ++ us)
  | [], es, vs, us, h, k => by cases (show vs = [] from h); exact k
  | d :: ds, es, _, us, ⟨v, r, h1, h2, h3⟩, k => by subst h1; exact ⟨v, r ++ us, rfl, h2, h3.app k⟩
theorem RepL.rev {K : PySem.W.Frag} {ca : Str → Addr} {F : Hp} : ∀ {ds : List D} {vs : List V}, RepL K ca F ds vs → RepL K ca F ds.reverse vs.reverse
  | [], vs, h => by cases (show vs = [] from h); exact rfl
  | d :: ds, _, ⟨v, r, h1, h2, h3⟩ => by
    subst h1
    rw [List.reverse_cons, List.reverse_cons]
    exact h3.rev.app ⟨v, [], rfl, h2, rfl⟩
theorem e_lstRev {e : Expr} {p p2 pos pos2 : Pos} {m : ME} (c : XOk X W) (hg : Gl X "list") (hm : X.mg "list" = none) (hg2 : Gl X "reversed") (hm2 : X.mg "reversed" = none) (he : PE X e (rdE X.K B W m))
    (hs : starEach [e] X.env = (false, eval e X.env) :: starEach [] X.env := by rfl)
    (hs2 : starEach [.Call (.Name "reversed" p2) [e] [] pos2] X.env = (false, eval (.Call (.Name "reversed" p2) [e] [] pos2) X.env) :: starEach [] X.env := by rfl) :
    PE X (.Call (.Name "list" p) [.Call (.Name "reversed" p2) [e] [] pos2] [] pos) (rdE X.K B W (eLstRev m)) := PE.imp (pe_lstRev c.calm hg hm hg2 hm2 he hs hs2) fun σ H Q ⟨F, τ, vs, ds, s, p⟩ => by
  refine ⟨F, τ, vs, ds, s, post_imp (post_bind p) (fun d τ1 q v F1 H1 s1 => ?_) fun _ _ q => q⟩
  obtain ⟨F2, sm, ⟨v', r, e1, rl, _⟩, s2⟩ := StT.freeze (us := [v]) (es := [d]) s1 rfl
  cases e1
  match h : freeze d, q, rl with
  | .lst b xs, q, rl =>
    cases b with
    | true => exact rl.elim
    | false =>
      obtain ⟨a, ws, rfl, h1, h2⟩ := rl
      exact ⟨a, ws, rfl, sqOf (s2.same _ _ h1), fun l hl => q _ _ _ ((s2.pushL h2.rev).newLst h2.rev.length hl)⟩
/-! ### clear -/
def sClear (i : Nat) : MS := fun τ => match τ.getD i none with
  | some (.lst true _) => .nx (τ.set i (some (.lst true [])))
  | _ => .bad
theorem s_clear {i : Nat} {o : Expr} {apos cpos pos : Pos} (ho : PE X o (tVar i))
    (hbase : attributeBase o "clear" X.env (eval o X.env) = eval o X.env := by rfl) (hline : (apos.endLine == cpos.line) = true := by rfl)
    (hsw : swapsWith (.Call (.Attribute o "clear" apos) [] [] cpos) none pos.line X.env = pure false := by rfl) : PS X (.Expr (.Call (.Attribute o "clear" apos) [] [] cpos) pos) (rdS X.K B W (sClear i)) :=
  PS.imp (ps_expr (pe_bm0 PySem.F.plainAttrs_list PySem.F.slot_list_clear PySem.F.type_list_clear mt_clear ho hbase hline) hsw) fun D σ H ⟨F, τ, vs, ds, s, p⟩ => by
    unfold sClear at p
    split at p
    · rename_i es e0
      have e0' := getD_some e0
      obtain ⟨v, k1, s2⟩ := s.take e0'
      obtain ⟨f, a, us, g, rfl, hx, hg, _⟩ := s2.top
      refine ⟨.ref a, k1, .inl ⟨rfl, us, sqOf hx⟩, a, us, rfl, rfl, hx, ?_⟩
      have s3 := StT.change (us := []) (ds := []) (ys := []) (es2 := []) s2 rfl hx fun g1 g2 r1 r2 => ⟨fun _ => 0, ⟨rfl, fun _ => rfl⟩, fun b => Nat.zero_le _⟩
      have s4 := s3.putBack (i := i) (by rw [List.length_set]; exact (List.getElem?_eq_some_iff.mp e0').1) k1
      rw [List.set_set] at s4
      exact p σ F _ s4
    · exact p.elim
/-! ### for y in xs: y.clear() -/
def isOwnL : D → Bool
  | .lst true _ => true
  | _ => false
theorem RepOs.clr {K : PySem.W.Frag} {ca : Str → Addr} {F H : Hp} : ∀ {es : List D} {us : List V} {g : Ct} {k : Nat} {ws : List D}, RepOs K ca F H es us g → es[k]? = some (.lst true ws) → (∀ a, g a ≤ 1) →
    ∃ b vs, us[k]? = some (.ref b) ∧ H b = some (.lst vs) ∧ 0 < g b ∧ ∃ g', RepOs K ca F (upd H b (.lst [])) (es.set k (.lst true [])) us g' ∧ ∀ x, g' x ≤ g x
  | [], _, _, _, _, _, e, _ => by simp at e
  | d :: es, _, g, 0, ws, ⟨v, r, f1, f2, e, h1, h2, h3⟩, hd, nd => by
    subst e
    have : d = .lst true ws := by simpa using hd
    subst this
    obtain ⟨b, vs, g1, rfl, hx, hg, q⟩ := h1
    have f1b : f1 b = 1 + g1 b := by rw [q, if_pos rfl]
    have one := nd b
    rw [h3, f1b] at one
    refine ⟨b, vs, rfl, hx, by rw [h3, f1b]; omega, fun x => (if x = b then 1 else 0) + f2 x, ?_, fun x => ?_⟩
    · refine ⟨.ref b, r, fun x => if x = b then 1 else 0, f2, rfl, ⟨b, [], fun _ => 0, rfl, upd_same, ⟨rfl, fun _ => rfl⟩, fun x => rfl⟩, RepOs.mono (Same.refl _) _ _ _ (fun x hx => upd_ne fun e => ?_) h2, fun _ => rfl⟩
      subst e; omega
    · show (if x = b then 1 else 0) + f2 x ≤ g x
      rw [h3, q]; omega
  | d :: es, _, g, k + 1, ws, ⟨v, r, f1, f2, e, h1, h2, h3⟩, hd, nd => by
    subst e
    obtain ⟨b, vs, k1, k2, k3, g', k4, k5⟩ := RepOs.clr (k := k) (ws := ws) h2 (by simpa using hd) (fun a => by have := nd a; rw [h3] at this; omega)
    have one := nd b
    rw [h3] at one
    refine ⟨b, vs, by simpa using k1, k2, by rw [h3]; omega, fun x => f1 x + g' x, ⟨v, r, f1, g', rfl, RepO.mono (Same.refl _) _ _ _ (fun x hx => upd_ne fun e => ?_) h1, k4, fun _ => rfl⟩, fun x => by show f1 x + g' x ≤ g x; rw [h3]; have := k5 x; omega⟩
    subst e; omega
theorem StT.clr {K : PySem.W.Frag} {F H : Hp} {σ : L2.St} {τ : Env} {vs : List V} {es ds ws : List D} {a : Addr} {k : Nat} (s : StT K B F H σ τ (.ref a :: vs) (.lst true es :: ds)) (hk : es[k]? = some (.lst true ws)) :
    ∃ us b xs, H a = some (.lst us) ∧ us[k]? = some (.ref b) ∧ H b = some (.lst xs) ∧ StT K B F (upd H b (.lst [])) σ τ (.ref a :: vs) (.lst true (es.set k (.lst true [])) :: ds) := by
  obtain ⟨f1, f2, A, ⟨_, _, g1, g2, e, h, b2, q⟩, w, io⟩ := s
  cases e
  obtain ⟨a', us, g3, e', hx, h3, q3⟩ := h
  cases e'
  have tot : ∀ x, f1 x + f2 x = f1 x + ((if x = a then 1 else 0) + g3 x + g2 x) := fun x => by rw [q, q3]
  have nd : ∀ x, f1 x + ((if x = a then 1 else 0) + g3 x + g2 x) ≤ 1 := fun x => by rw [← tot]; exact w.nd x
  obtain ⟨b, xs, k1, k2, k3, g', k4, k5⟩ := RepOs.clr h3 hk fun x => by have := nd x; omega
  have nb := nd b
  have hba : a ≠ b := fun e => by subst e; rw [if_pos rfl] at nb; omega
  rw [if_neg (fun e => hba e.symm)] at nb
  have off : ∀ {φ : Ct}, φ b = 0 → ∀ x, 0 < φ x → upd H b (.lst []) x = H x := fun {φ} hz x hx => upd_ne fun e => by rw [e, hz] at hx; omega
  have fb : F b = none := w.dF b (by show 0 < f1 b + f2 b; rw [tot]; omega)
  have rb : B.R b = none := w.dR b (by show 0 < f1 b + f2 b; rw [tot]; omega)
  refine ⟨us, b, xs, hx, k1, k2, f1, fun x => ((if x = a then 1 else 0) + g' x) + g2 x, A.mono (Same.refl _) (off (by omega)), ⟨.ref a, vs, fun x => (if x = a then 1 else 0) + g' x, g2, rfl, ⟨a, us, g', rfl, (upd_ne hba).trans hx, k4, fun _ => rfl⟩, RepOs.mono (Same.refl _) _ _ _ (off (by omega)) b2, fun _ => rfl⟩, ?_, io⟩
  have w2 : Wd B F H (fun x => f1 x + (((if x = a then 1 else 0) + g' x) + g2 x)) := w.less fun x => by
    show f1 x + (((if x = a then 1 else 0) + g' x) + g2 x) ≤ f1 x + f2 x
    have := tot x; have := k5 x; omega
  exact ⟨w2.nd, w2.dF, w2.dR, fun x o e => by rw [upd_ne (ne_of_none e fb)]; exact w.sF x o e, fun x o e => by rw [upd_ne (ne_of_none e rb)]; exact w.sR x o e, w.s0, w.fr⟩
def clrL (k : Nat) (es : List D) : List D := List.replicate k (.lst true []) ++ es.drop k
theorem clrL_set {k : Nat} {es : List D} (h : k < es.length) : (clrL k es).set k (.lst true []) = clrL (k + 1) es := by
  unfold clrL
  rw [List.set_append_right _ _ (by simp), List.length_replicate, Nat.sub_self, List.drop_eq_getElem_cons h, List.set_cons_zero, List.replicate_succ', List.append_assoc]
  rfl
theorem clrL_get {k : Nat} {es : List D} (h : k < es.length) : (clrL k es)[k]? = some es[k] := by
  unfold clrL
  rw [List.getElem?_append_right (by simp), List.length_replicate, Nat.sub_self, List.drop_eq_getElem_cons h]
  rfl
theorem clrL_length {k : Nat} {es : List D} (h : k ≤ es.length) : (clrL k es).length = es.length := by
  unfold clrL
  rw [List.length_append, List.length_replicate, List.length_drop]; omega
def sClearEach (i j : Nat) : MS := fun τ => match τ.getD i none with
  | some (.lst true es) => if es.all isOwnL = true ∧ j < τ.length then .nx ((τ.set j none).set i (some (.lst true (clrL es.length es)))) else .bad
  | _ => .bad
theorem s_clearEach {i j : Nat} {y : Str} {it o : Expr} {py apos cpos epos pos : Pos} (c : XOk X W) (hN : X.N.Nodup) (hj : X.N[j]? = some y) (hx : Loc X.env.scope y) (hij : i ≠ j) (hi : PE X it (tVar i)) (ho : PE X o (tVar j))
    (hio : ioFree B j := by first | (intro p hp; cases hp; done) | (intro p hp; simp only [List.mem_cons, List.not_mem_nil, or_false] at hp; rcases hp with rfl | rfl <;> simp) | (intro p hp; simp only [List.mem_cons, List.not_mem_nil, or_false] at hp; subst hp; simp))
    (hf : X.fn y = true ∨ X.env.scope.names.lookup y = some .local := by first | exact .inl rfl | exact .inr rfl | assumption)
    (hbase : attributeBase o "clear" X.env (eval o X.env) = eval o X.env := by rfl) (hline : (apos.endLine == cpos.line) = true := by rfl)
    (hsw : swapsWith (.Call (.Attribute o "clear" apos) [] [] cpos) none epos.line X.env = pure false := by rfl) (hs : ∀ x, foldedSetIterable it X.env x = pure x := by intro _; rfl) :
    PS X (.For (.Name y py) it [.Expr (.Call (.Attribute o "clear" apos) [] [] cpos) epos] [] pos) (rdS X.K B W (sClearEach i j)) :=
  PS.imp (ps_for c.hp c.calm (pi_list hi) (pg_name hN hj hx hf) (pss_one (ps_expr (pe_bm0 PySem.F.plainAttrs_list PySem.F.slot_list_clear PySem.F.type_list_clear mt_clear ho hbase hline) hsw)) hs) fun D σ H ⟨F, τ, vs, ds, s, p⟩ => by
    unfold sClearEach at p
    split at p
    · rename_i es e0
      have e0' := getD_some e0
      by_cases hall' : es.all isOwnL = true ∧ j < τ.length
      · rw [if_pos hall'] at p
        obtain ⟨hall, hjl⟩ := hall'
        have sl := s.len
        obtain ⟨v, k1, s2⟩ := (s.forget (i := j)).take (i := i) (d := .lst true es) (by rw [List.getElem?_set_ne (fun e => hij e.symm)]; exact e0')
        obtain ⟨f, a, us, g, rfl, hx0, hg, _⟩ := s2.top
        refine ⟨.ref a, k1, a, rfl, ⟨us, sqOf hx0⟩, fun k m σ H => m = es.length - k ∧ k ≤ es.length ∧ σ[i]? = some (some (.ref a)) ∧ j < σ.length ∧ StT X.K B F H σ ((τ.set j none).set i none) (.ref a :: vs) (.lst true (clrL k es) :: ds), ⟨_, rfl, Nat.zero_le _, k1, ?_, s2⟩, ?_⟩
        · rw [sl]; exact hjl
        · rintro k m σ1 H1 ⟨rfl, hk, q1, q2, s1⟩
          by_cases hlt : k < es.length
          · obtain ⟨ws, hws⟩ : ∃ ws, es[k] = .lst true ws := by
              have := List.all_eq_true.mp hall es[k] (List.getElem_mem hlt)
              cases h : es[k] with
              | lst m xs => cases m with
                | true => exact ⟨xs, rfl⟩
                | false => rw [h] at this; cases this
              | _ => rw [h] at this; cases this
            have hget := clrL_get hlt
            rw [hws] at hget
            obtain ⟨us1, b, xs, y1, y2, y3, s3⟩ := s1.clr hget
            rw [clrL_set hlt] at s3
            refine .inr ⟨⟨us1, _, sqOf y1, y2⟩, fun σ' H' => σ'[i]? = some (some (.ref a)) ∧ j < σ'.length ∧ StT X.K B F H' σ' ((τ.set j none).set i none) (.ref a :: vs) (.lst true (clrL (k + 1) es) :: ds), fun σ' H' ⟨z1, z2, z3⟩ => ⟨es.length - (k + 1), by omega, rfl, hlt, z1, z2, z3⟩, fun x H' hy => ?_⟩
            obtain ⟨rfl, hy⟩ := hy
            have hxb := hy us1 (sqOf y1)
            rw [y2] at hxb
            cases hxb
            refine ⟨.ref b, by rw [List.getElem?_set_self q2], .inl ⟨rfl, xs, sqOf y3⟩, b, xs, rfl, rfl, y3, ?_, by rw [List.length_set]; exact q2, ?_⟩
            · rw [List.getElem?_set_ne (fun e => hij e.symm)]; exact q1
            · refine s3.reset (by rw [List.length_set]) (fun j' d hd => ?_) (fun q hq => ?_)
              · rw [List.getElem?_set_ne]
                intro e
                subst e
                rw [List.getElem?_set_ne hij] at hd
                rw [List.getElem?_set_self'] at hd
                cases h : τ[j]? with
                | none => rw [h] at hd; cases hd
                | some z => rw [h] at hd; cases hd
              · obtain ⟨_, _, _, _, _, io⟩ := s1
                rw [List.getElem?_set_ne (fun e => hio q hq (by rw [e]))]
                exact io q hq
          · have e : k = es.length := by omega
            subst e
            obtain ⟨f, a', us, g, ea, y1, y2, _⟩ := s1.top
            cases ea
            refine .inl ⟨⟨us, sqOf y1, by rw [y2.length, clrL_length hk]; exact Nat.le_refl _⟩, ?_⟩
            have s4 := s1.putBack (i := i) (by rw [List.length_set, List.length_set]; exact (List.getElem?_eq_some_iff.mp e0').1) q1
            rw [List.set_set] at s4
            exact p σ1 F _ s4
      · rw [if_neg hall'] at p; exact p.elim
    · exact p.elim
/-! ### pop, insert -/
theorem RepOs.eraseI {K : PySem.W.Frag} {ca : Str → Addr} {F H : Hp} : ∀ {es : List D} {us : List V} {g : Ct} (k : Nat), RepOs K ca F H es us g → ∃ g', RepOs K ca F H (es.eraseIdx k) (us.eraseIdx k) g' ∧ ∀ x, g' x ≤ g x
  | [], us, g, k, h => by
    have h0 : us = [] := h.1
    subst h0
    exact ⟨g, h, fun _ => Nat.le_refl _⟩
  | d :: es, _, g, 0, ⟨v, r, f1, f2, e, h1, h2, h3⟩ => by
    subst e
    exact ⟨f2, h2, fun x => by rw [h3]; omega⟩
  | d :: es, _, g, k + 1, ⟨v, r, f1, f2, e, h1, h2, h3⟩ => by
    subst e
    obtain ⟨g', k1, k2⟩ := RepOs.eraseI k h2
    exact ⟨fun x => f1 x + g' x, ⟨v, _, f1, g', rfl, h1, k1, fun _ => rfl⟩, fun x => by show f1 x + g' x ≤ g x; rw [h3]; have := k2 x; omega⟩
theorem RepOs.insI {K : PySem.W.Frag} {ca : Str → Addr} {F H : Hp} {d0 : D} {v0 : V} {f0 : Ct} (h0 : RepO K ca F H d0 v0 f0) : ∀ {es : List D} {us : List V} {g : Ct} (k : Nat), RepOs K ca F H es us g → ∃ g', RepOs K ca F H (es.take k ++ [d0] ++ es.drop k) (us.take k ++ [v0] ++ us.drop k) g' ∧ ∀ x, g' x ≤ g x + f0 x
  | es, us, g, 0, h => by
    refine ⟨fun x => f0 x + g x, ?_, fun x => by show f0 x + g x ≤ g x + f0 x; omega⟩
    simp only [List.take_zero, List.drop_zero, List.nil_append, List.singleton_append]
    exact ⟨v0, us, f0, g, rfl, h0, h, fun _ => rfl⟩
  | [], us, g, k + 1, h => by
    have e : us = [] := h.1
    subst e
    refine ⟨f0, ?_, fun x => by omega⟩
    exact ⟨v0, [], f0, fun _ => 0, rfl, h0, ⟨rfl, fun _ => rfl⟩, fun _ => rfl⟩
  | d :: es, _, g, k + 1, ⟨v, r, f1, f2, e, h1, h2, h3⟩ => by
    subst e
    obtain ⟨g', k1, k2⟩ := RepOs.insI h0 k h2
    exact ⟨fun x => f1 x + g' x, ⟨v, _, f1, g', rfl, h1, k1, fun _ => rfl⟩, fun x => by show f1 x + g' x ≤ g x + f0 x; rw [h3]; have := k2 x; omega⟩
def popD (es : List D) (k : Int) : Option (List D) := if -(2 ^ 63) ≤ k ∧ k < 2 ^ 63 then (ixN es.length k).map fun j => es.eraseIdx j else none
def sPopAt (i : Nat) (mi : MZ) : MS := fun τ => match τ.getD i none with
  | some (.lst true es) => (match mi τ with
    | some (.int k) => (match popD es k with
      | some es' => .nx (τ.set i (some (.lst true es')))
      | none => .bad)
    | _ => .bad)
  | _ => .bad
theorem pa_one {e : Expr} {te : TE} (he : PE X e te) (hs : starEach [e] X.env = (false, eval e X.env) :: starEach [] X.env := by rfl) : PA X [e] (tCons te tNil) := pa_cons he pa_nil hs
theorem s_popAt {i : Nat} {o e : Expr} {apos cpos pos : Pos} {mi : MZ} (ho : PE X o (tVar i)) (hi : PE X e (rdZ X.K B mi))
    (hs : starEach [e] X.env = (false, eval e X.env) :: starEach [] X.env := by rfl)
    (hbase : attributeBase o "pop" X.env (eval o X.env) = eval o X.env := by rfl)
    (hfew : ((backTo cpos (starEach [e] X.env)).all (fun x => !x.1) && (backToKw cpos (keywordEach [] X.env)).all (fun x => x.1.isSome)
      && decide ([e].length + ([] : List Keyword).length + (if ([] : List Keyword).isEmpty then 0 else 1) < 30)) = true := by rfl)
    (hline : (apos.endLine == cpos.line) = true := by rfl) (hplain : (backTo cpos (starEach [] X.env)).any (·.1) = false := by rfl)
    (hsw : swapsWith (.Call (.Attribute o "pop" apos) [e] [] cpos) none pos.line X.env = pure false := by rfl) : PS X (.Expr (.Call (.Attribute o "pop" apos) [e] [] cpos) pos) (rdS X.K B W (sPopAt i mi)) :=
  PS.imp (ps_expr (pe_bm PySem.F.plainAttrs_list PySem.F.slot_list_pop PySem.F.type_list_pop mt_popAt ho (pa_cons hi pa_nil hs) hbase hfew hline hs hplain) hsw) fun D σ H ⟨F, τ, vs, ds, s, p⟩ => by
    unfold sPopAt at p
    split at p
    · rename_i es e0
      have e0' := getD_some e0
      split at p
      · rename_i k e2
        cases e3 : popD es k with
        | none => rw [e3] at p; exact p.elim
        | some es' =>
          rw [e3] at p
          replace p : postS X.K B W vs ds D (SR.nx (τ.set i (some (.lst true es')))) := p
          unfold popD at e3
          by_cases hk : -(2 ^ 63) ≤ k ∧ k < 2 ^ 63
          · rw [if_pos hk] at e3
            cases e4 : ixN es.length k with
            | none => rw [e4] at e3; cases e3
            | some j =>
              rw [e4] at e3
              replace e3 : es.eraseIdx j = es' := Option.some.inj e3
              obtain ⟨v, k1, s2⟩ := s.take e0'
              obtain ⟨f, a, us, g, rfl, hx, hg, _⟩ := s2.top
              obtain ⟨i1, i2, _⟩ := ixN_seq e4
              refine ⟨.ref a, k1, .inl ⟨rfl, us, sqOf hx⟩, F, τ, vs, ds, s, .int k, e2, fun w fw hw => ?_⟩
              obtain rfl : w = V.int k := hw.1
              refine ⟨a, us, k, j, us[j]'(by rw [hg.length]; exact i2), rfl, rfl, hx, hk.1, hk.2, by rw [hg.length]; exact i1, by simp, ?_⟩
              have s3 := StT.change (us := []) (ds := []) (ys := us.eraseIdx j) (es2 := es.eraseIdx j) s2 rfl hx fun g1 g2 r1 r2 => by
                obtain ⟨g, q1, q2⟩ := RepOs.eraseI j r1
                exact ⟨g, q1, fun b => by have := q2 b; omega⟩
              have s4 := s3.putBack (i := i) (by rw [List.length_set]; exact (List.getElem?_eq_some_iff.mp e0').1) k1
              rw [List.set_set, e3] at s4
              exact p σ F _ s4
          · rw [if_neg hk] at e3; cases e3
      · exact p.elim
    · exact p.elim
def sIns (i : Nat) (mi : MZ) (m : ME) : MS := fun τ => match τ.getD i none, mi τ with
  | some (.lst true _), some (.int k) => (m τ).s fun d τ1 => (match τ1.getD i none with
    | some (.lst true es) => if es.length < 1000000 ∧ 0 ≤ k ∧ k < 2 ^ 63 then .nx (τ1.set i (some (.lst true (es.take k.toNat ++ [d] ++ es.drop k.toNat)))) else .bad
    | _ => .bad)
  | _, _ => .bad
theorem s_ins {i : Nat} {o e0 e : Expr} {apos cpos pos : Pos} {mi : MZ} {m : ME} (ho : PE X o (tVar i)) (hi : PE X e0 (rdZ X.K B mi)) (he : PE X e (rdE X.K B W m))
    (hbase : attributeBase o "insert" X.env (eval o X.env) = eval o X.env := by rfl)
    (hfew : ((backTo cpos (starEach [e0, e] X.env)).all (fun x => !x.1) && (backToKw cpos (keywordEach [] X.env)).all (fun x => x.1.isSome)
      && decide ([e0, e].length + ([] : List Keyword).length + (if ([] : List Keyword).isEmpty then 0 else 1) < 30)) = true := by rfl)
    (hline : (apos.endLine == cpos.line) = true := by rfl) (hs0 : starEach [e0, e] X.env = (false, eval e0 X.env) :: starEach [e] X.env := by rfl) (hs : starEach [e] X.env = (false, eval e X.env) :: starEach [] X.env := by rfl)
    (hplain : (backTo cpos (starEach [e] X.env)).any (·.1) = false := by rfl)
    (hsw : swapsWith (.Call (.Attribute o "insert" apos) [e0, e] [] cpos) none pos.line X.env = pure false := by rfl) : PS X (.Expr (.Call (.Attribute o "insert" apos) [e0, e] [] cpos) pos) (rdS X.K B W (sIns i mi m)) :=
  PS.imp (ps_expr (pe_bm PySem.F.plainAttrs_list PySem.F.slot_list_insert PySem.F.type_list_insert mt_insert ho (pa_cons hi (pa_cons he pa_nil hs) hs0) hbase hfew hline hs0 hplain) hsw) fun D σ H ⟨F, τ, vs, ds, s, p⟩ => by
    unfold sIns at p
    split at p
    · rename_i es0 k e0 e2
      obtain ⟨v, f, h1, a, us, g, rfl, h2, _⟩ := s.get (getD_some e0)
      refine ⟨.ref a, h1, .inl ⟨rfl, us, sqOf h2⟩, F, τ, vs, ds, s, .int k, e2, fun w fw hw => ?_⟩
      obtain rfl : w = V.int k := hw.1
      refine ⟨F, τ, vs, ds, s, post_imp (post_s (σ := σ) p) (fun d τ1 q y F1 H1 s1 => ?_) fun _ _ q => q⟩
      split at q
      · rename_i es e1
        have e1' := getD_some e1
        obtain ⟨v, k1, s2⟩ := s1.take e1'
        rw [h1] at k1
        cases k1
        by_cases hl : es.length < 1000000 ∧ 0 ≤ k ∧ k < 2 ^ 63
        · rw [if_pos hl] at q
          obtain ⟨f, a', us', g, ea, hx, hg, _⟩ := s2.top
          cases ea
          refine ⟨a, us', k, y, rfl, rfl, hx, by rw [hg.length, sizeLine_eq]; omega, hl.2.1, hl.2.2, ?_⟩
          have s3 := s2.change (us := [y]) (ds := [d]) (ys := us'.take k.toNat ++ [y] ++ us'.drop k.toNat) (es2 := es.take k.toNat ++ [d] ++ es.drop k.toNat) rfl hx fun g1 g2 r1 r2 => by
            obtain ⟨_, r, f1, f2, ey, q1, q2, q3⟩ := r2
            cases ey
            obtain ⟨g, y1, y2⟩ := RepOs.insI q1 k.toNat r1
            exact ⟨g, y1, fun b => by have := y2 b; have := q3 b; have := q2.2 b; omega⟩
          have s4 := s3.putBack (i := i) (by rw [List.length_set]; exact (List.getElem?_eq_some_iff.mp e1').1) h1
          rw [List.set_set] at s4
          exact q σ F1 _ s4
        · rw [if_neg hl] at q; exact q.elim
      · exact q.elim
    · exact p.elim
end
end Bn

/-! range(i, j, -1) -/
namespace Bn
open PySem PySem.Spec PyProof.Rows L2
def rangeN (lo : Int) (n : Nat) : List D := (List.range n).map fun k => D.int (lo + (k : Nat) * (-1))
theorem itOk_rangeN {B : Bx} {K : PySem.W.Frag} {lo : Int} {n : Nat} {vs : List V} {ds : List D} : ItOk K B (Itc lo (-1) n) (rangeN lo n) vs ds := by
  refine ⟨fun i F H σ τ s hi => ?_, fun F H σ τ s => ?_, fun i d F H σ τ x H' us' es' hl hd s y => ?_⟩
  · show i < n; simpa [rangeN] using hi
  · show n ≤ (rangeN lo n).length; simp [rangeN]
  · obtain ⟨rfl, rfl⟩ := y
    have hi : i < n := by simpa [rangeN] using (List.getElem?_eq_some_iff.mp hd).1
    have e : d = .int (lo + (i : Nat) * (-1)) := by
      unfold rangeN at hd
      rw [List.getElem?_map, List.getElem?_range hi] at hd
      exact (Option.some.inj hd).symm
    subst e
    exact ⟨F, s.push (d := .int _) rfl⟩
def iR3 (m : MA) : MA := fun τ => (m τ).bind fun ds τ1 => match ds with
  | [.int i, .int j, .int c] => if c = -1 ∧ -(2 ^ 62) ≤ i ∧ i < 2 ^ 62 ∧ -(2 ^ 62) ≤ j ∧ j < 2 ^ 62 then .ok (rangeN i (i - j).toNat) τ1 else .bad
  | _ => .bad
theorem i_range3 {X : Cx} {B : Bx} {W : WX} {tg a b c : Expr} {p pos : Pos} {m : MA} (hg : Gl X "range") (hm : X.mg "range" = none) (ha : PA X [a, b, c] (rdA X.K B W m)) (hs : starEach [a, b, c] X.env = (false, eval a X.env) :: starEach [b, c] X.env := by rfl) (hpl : (backTo pos (starEach [b, c] X.env)).any (·.1) = false := by rfl) :
    PI X tg (.Call (.Name "range" p) [a, b, c] [] pos) (rdI X.K B W (iR3 m)) := PI.imp (pi_range3 hg hm ha hs hpl) fun σ H R ⟨F, τ, vs, ds, s, p⟩ => by
  refine ⟨F, τ, vs, ds, s, post_imp (post_bind p) (fun es τ1 q us F1 H1 hl s1 => ?_) fun _ _ q => q⟩
  have g := s1.pops hl
  match es, q, s1, hl with
  | [.int i, .int j, .int c], q, s1, hl =>
    match us, s1, hl with
    | [u, v, t], s1, _ =>
      cases (show u = .int i from s1.topF rfl)
      cases (show v = .int j from s1.pop.topF rfl)
      cases (show t = .int c from s1.pop.pop.topF rfl)
      by_cases z : c = -1 ∧ -(2 ^ 62) ≤ i ∧ i < 2 ^ 62 ∧ -(2 ^ 62) ≤ j ∧ j < 2 ^ 62
      · simp only [z, and_self, if_true] at q
        obtain ⟨rfl, z1, z2, z3, z4⟩ := z
        exact ⟨i, j, -1, _, rfl, RgC.neg z1 z2 z3 z4, q (Itc i (-1) (i - j).toNat) [] [] F1 H1 rfl g itOk_rangeN⟩
      · simp only [z, if_false] at q; exact False.elim q
/-! ### a slice of a list that its name keeps -/
section
variable {X : Cx} {B : Bx} {W : WX}
theorem RepOs.allF {K : PySem.W.Frag} {ca : Str → Addr} {F H : Hp} : ∀ {es : List D} {us : List V} {g : Ct}, es.all isFz = true → RepOs K ca F H es us g → RepL K ca F es us
  | [], us, _, _, h => h.1
  | x :: es, _, _, hz, ⟨v, r, f1, f2, e, h1, h2, _⟩ => by
    rw [List.all_cons, Bool.and_eq_true] at hz
    exact ⟨v, r, e, ((repO_fz hz.1).mp h1).1, RepOs.allF hz.2 h2⟩
def skQ (rr : R (Option Int)) (es : List D) (lo : Option Int) (i : Nat) : R D := match rr with
  | .ok hi τ2 => .ok (.lst true (cutL es lo hi)) (τ2.set i (some (.lst true es)))
  | _ => .bad
def skP (rp : R (Option Int)) (es : List D) (i : Nat) (r : Env → R (Option Int)) : R D := match rp with
  | .ok lo τ1 => skQ (r τ1) es lo i
  | _ => .bad
def skD (o : Option D) (i : Nat) (p r : Env → R (Option Int)) (τ : Env) : R D := match o with
  | some (.lst true es) => if es.all isFz = true then skP (p (τ.set i none)) es i r else .bad
  | _ => .bad
def eSliceK (i : Nat) (p r : Env → R (Option Int)) : ME := fun τ => skD (τ.getD i none) i p r τ
theorem e_sliceK {i : Nat} {e : Expr} {lo hi : Option Expr} {p2 pos : Pos} {p r : Env → R (Option Int)} (he : PE X e (tVar i)) (hl : PO X lo (rdP X.K B W p)) (hu : PO X hi (rdP X.K B W r)) : PE X (.Subscript e (.Slice lo hi none p2) pos) (rdE X.K B W (eSliceK i p r)) :=
  PE.imp (pe_slice sl_list he hl hu) fun σ H Q ⟨F, τ, vs, ds, s, k⟩ => by
    unfold eSliceK skD at k
    cases e0 : τ.getD i none with
    | none => rw [e0] at k; exact k.elim
    | some d0 =>
      rw [e0] at k
      cases d0 with
      | lst mm es =>
        cases mm with
        | false => exact k.elim
        | true =>
          replace k : post _ _ (if es.all isFz = true then skP (p (τ.set i none)) es i r else R.bad) := k
          by_cases z : es.all isFz = true
          · rw [if_pos z] at k
            obtain ⟨v, h1, s1⟩ := s.take (getD_some e0)
            refine ⟨v, h1, F, τ.set i none, _, _, s1, ?_⟩
            unfold skP at k
            cases ep : p (τ.set i none) with
            | ok l τ1 =>
              rw [ep] at k
              intro F1 H1 s2
              refine ⟨F1, τ1, _, _, s2, ?_⟩
              replace k : post _ _ (skQ (r τ1) es l i) := k
              unfold skQ at k
              cases er : r τ1 with
              | ok h τ2 =>
                rw [er] at k
                intro F2 H2 s3
                obtain ⟨f, a, us, g, ev, q1, q2, _⟩ := s3.top
                subst ev
                have q3 := RepOs.allF z q2
                replace k : ∀ (v : V) (F' H' : Hp), StT X.K B F' H' σ (τ2.set i (some (.lst true es))) (v :: vs) (.lst true (cutL es l h) :: ds) → Q v H' := k
                refine ⟨a, us, rfl, sqOf q1, fun np hnp => ?_⟩
                have s4 := (s3.pushL (q3.cut l h)).newLst (q3.cut l h).length hnp
                have s5 := StT.swap (us := [.ref np]) (es := [.lst true (cutL es l h)]) s4 rfl
                exact k _ _ _ (s5.putBack (by rw [← s3.len]; exact (List.getElem?_eq_some_iff.mp h1).1) h1)
              | _ => rw [er] at k; exact k.elim
            | _ => rw [ep] at k; exact k.elim
          · rw [if_neg z] at k; exact k.elim
      | _ => exact k.elim
/-! ### list(xs) of a list that its name keeps -/
def lkR (o : Option D) (τ : Env) : R D := match o with
  | some (.lst true es) => if es.all isFz = true then .ok (.lst true es) τ else .bad
  | _ => .bad
def eLstK (i : Nat) : ME := fun τ => lkR (τ.getD i none) τ
theorem e_lstK {i : Nat} {x : Str} {p pos : Pos} {e : Expr} (hg : Gl X x) (hm : X.mg x = none) (hv : bootBuiltins x = some (.type "list")) (hi : PE X e (tVar i)) (hn : x ≠ "__name__" := by decide) (hdb : (x == ("__debug__" : Str)) = false := by decide)
    (he : starEach [e] X.env = (false, eval e X.env) :: starEach [] X.env := by rfl) (hpl : (backTo pos (starEach [] X.env)).any (·.1) = false := by rfl) : PE X (.Call (.Name x p) [e] [] pos) (rdE X.K B W (eLstK i)) := PE.imp (pe_callTy call_list_of hg hm hv (pa_cons hi pa_nil he) hn hdb he hpl) fun σ H Q ⟨F, τ, vs, ds, s, k⟩ => by
  unfold eLstK lkR at k
  cases e0 : τ.getD i none with
  | none => rw [e0] at k; exact k.elim
  | some d0 =>
    rw [e0] at k
    cases d0 with
    | lst mm es =>
      cases mm with
      | false => exact k.elim
      | true =>
        replace k : post _ _ (if es.all isFz = true then R.ok (D.lst true es) τ else R.bad) := k
        by_cases z : es.all isFz = true
        · rw [if_pos z] at k
          replace k : ∀ (v : V) (F' H' : Hp), StT X.K B F' H' σ τ (v :: vs) (.lst true es :: ds) → Q v H' := k
          obtain ⟨v, h1, s1⟩ := s.take (getD_some e0)
          obtain ⟨f, a, us, g, ev, q1, q2, _⟩ := s1.top
          subst ev
          have q3 := RepOs.allF z q2
          refine ⟨_, h1, a, us, rfl, .inl (sqOf q1), fun np hnp => ?_⟩
          have s4 := (s1.pushL q3).newLst q3.length hnp
          have s5 := StT.swap (us := [.ref np]) (es := [.lst true es]) s4 rfl
          have s6 := s5.putBack (i := i) (by rw [List.length_set, ← s.len]; exact (List.getElem?_eq_some_iff.mp h1).1) h1
          have e1 : (τ.set i none).set i (some (.lst true es)) = τ := by
            rw [List.set_set]
            have := getD_some e0
            exact List.ext_getElem? fun j => by
              rw [List.getElem?_set]
              split
              · rename_i z; subst z
                split
                · exact this.symm
                · rename_i z; rw [List.getElem?_eq_none (by omega)]
              · rfl
          rw [e1] at s6
          exact k _ _ _ s6
        · rw [if_neg z] at k; exact k.elim
    | _ => exact k.elim
/-! ### a call whose first argument is a list that its name keeps -/
theorem lend_sp2 {g : List D → CR} {F H : Hp} {σ : L2.St} {τ : Env} {vs us : List V} {ds es : List D} {f : Ct} {Q : VK} (s : StT X.K B F H σ τ vs ds) (r : RepOs X.K B.ca F H es us f) {po : List D} {pov : List V} (hp : RepL X.K B.ca F po pov)
    (p : post (fun d τ' => ∀ v F' H', StT X.K B F' H' σ τ' (v :: vs) (d :: ds) → Q v H') (exW X.K B W σ vs ds) (lendR (g (freezeL es ++ po)) τ)) : spP X.K B.ca g (us ++ pov) H Q (W · · σ ·) := by
  refine ⟨lend F H f, freezeL es ++ po, lend_sub s.same f, (lend_rep s r).append (RepL.mono (lend_same F H f) _ _ hp), ?_⟩
  unfold lendR at p
  cases eg : g (freezeL es ++ po) with
  | ok d =>
    rw [eg] at p
    replace p : post _ _ (if clean d = true then R.ok d τ else R.bad) := p
    by_cases z : clean d = true
    · rw [if_pos z] at p
      intro v F' H' f' k1 k2 k3 k4 k5 k6 k7
      obtain ⟨F2, s2⟩ := s.lent r k1 k2 k3 k4 k5 k6 k7 z
      exact p v F2 H' s2
    · rw [if_neg z] at p; exact p.elim
  | ex c => rw [eg] at p; exact fun H' k1 => p F H' (s.grown k1)
  | bad => rw [eg] at p; exact p
def ckR (g : List D → CR) (o : Option D) (es : List D) (τ : Env) : R D := match o with
  | some d => lendR (g (freezeL [d] ++ freezeL es)) τ
  | none => .bad
def eCallK (g : List D → CR) (i : Nat) (m : MA) : ME := fun τ => if (τ.getD i none).isSome = true then (m τ).bind fun es τ1 => ckR g (τ1.getD i none) es τ1 else .bad
theorem e_callK {x : Str} {p pos : Pos} {e : Expr} {es : List Expr} {m : MA} {g : List D → CR} {k j i : Nat} (c : XOk X W) (G : Fo X.prog X.w X.K X.mg X.base B.ca k x g) (hr : Room j X.A) (hg : Gl X x) (hi : PE X e (tVar i)) (ha : PA X es (rdA X.K B W m)) (hk : k ≤ j := by decide) (hdb : (x == ("__debug__" : Str)) = false := by decide)
    (he : starEach (e :: es) X.env = (false, eval e X.env) :: starEach es X.env := by rfl) (hpl : (backTo pos (starEach es X.env)).any (·.1) = false := by rfl) : PE X (.Call (.Name x p) (e :: es) [] pos) (rdE X.K B W (eCallK g i m)) := by
  obtain ⟨f, fd, ps, h1, h2, h3, h4⟩ := G.ex
  refine PE.imp (pe_callS h4 (hr.mono hk) hg h1 h2 h3 (fun σ => passAt c.tk σ) (pa_cons hi ha he) hdb he hpl) fun σ H Q h => ?_
  obtain ⟨F, τ, vs, ds, s, q⟩ := h
  unfold eCallK at q
  by_cases z : (τ.getD i none).isSome = true
  · rw [if_pos z] at q
    obtain ⟨d0, e0⟩ := Option.isSome_iff_exists.mp z
    obtain ⟨v, f0, k1, _⟩ := s.get (getD_some e0)
    refine ⟨v, k1, F, τ, vs, ds, s, post_imp (post_bind q) (fun as τ1 q us F1 H1 hl s1 => ?_) fun _ _ q => q⟩
    obtain ⟨F2, sm, rl, s2⟩ := s1.freeze hl
    unfold ckR at q
    cases e1 : τ1.getD i none with
    | none => rw [e1] at q; exact q.elim
    | some d =>
      rw [e1] at q
      obtain ⟨v', f1, k2, k3⟩ := s2.get (getD_some e1)
      have : v' = v := by rw [k1] at k2; cases k2; rfl
      subst this
      exact lend_sp2 s2 (es := [d]) (us := [v']) (f := f1) ⟨v', [], f1, fun _ => 0, rfl, k3, ⟨rfl, fun _ => rfl⟩, fun _ => rfl⟩ rl q
  · rw [if_neg z] at q; exact q.elim
end
end Bn

/-! defs that call themselves; int(..) of truths; tuple(xs). -/
namespace Bn
open PySem PySem.Spec PyProof.Rows L2
section
variable {P : Program} {w : World} {K : PySem.W.Frag} {mg : Str → Option Value} {base : Heap} {ca : Str → Addr}
theorem fo_bad {x qual : Str} {st : Stmt} {f : Addr} {fd : FuncData} {ps : List Str} {k : Nat} (F : Fun K x qual st f fd) (hm : mg x = some (.ref f)) (hb : Binds K fd ps []) : Fo P w K mg base ca k x (fun _ => .bad) :=
  ⟨f, fd, ps, hm, F.kp, hb, ⟨fun vs H Q E h => by obtain ⟨_, _, _, _, z⟩ := h; exact z.elim, fun A outer s H args us vs Q E _ _ _ _ h => by obtain ⟨_, _, _, _, z⟩ := h; exact z.elim⟩⟩
theorem Fo.at {x : Str} {g : List D → CR} {k j : Nat} (F : Fo P w K mg base ca k x g) (h : k = j) : Fo P w K mg base ca j x g := h ▸ F
end
def gInt : List D → Option D
  | [.int i] => some (.int i)
  | [.bl b] => some (.int (if b then 1 else 0))
  | _ => none
theorem sInt {K : PySem.W.Frag} : CallS K (fun xs H Q => (∃ i, xs = [.int i] ∧ Q (.int i) H) ∨ ∃ k, xs = [.bl k] ∧ Q (.int (if k then 1 else 0)) H) gInt := by
  intro ca F H xs as d f1 Q sm hx e q
  match as, e, hx with
  | [.int i], e, hx =>
    obtain ⟨v, r, g1, g2, rfl, h1, h2, _⟩ := hx
    cases (show r = [] from h2.1)
    cases (show some (D.int i) = some d from e)
    cases (show v = .int i from h1.1)
    exact .inl ⟨i, rfl, q (.int i) _ (Rep.o (d := .int i) rfl)⟩
  | [.bl b], e, hx =>
    obtain ⟨v, r, g1, g2, rfl, h1, h2, _⟩ := hx
    cases (show r = [] from h2.1)
    cases (show some (D.int (if b then 1 else 0)) = some d from e)
    cases (show v = .bl b from h1.1)
    exact .inr ⟨b, rfl, q (.int (if b then 1 else 0)) _ (Rep.o (d := .int (if b then 1 else 0)) rfl)⟩
/-- str(i) -/
def gStrI : List D → Option D
  | [.int i] => if i.natAbs.log2 < 1920 then some (.str (toString i)) else none
  | _ => none
theorem sStrI {K : PySem.W.Frag} : CallS K (fun xs H Q => ∃ i, xs = [.int i] ∧ i.natAbs.log2 < 1920 ∧ Q (.str (toString i)) H) gStrI := by
  intro ca F H xs as d f1 Q sm hx e q
  match as, e, hx with
  | [.int i], e, hx =>
    obtain ⟨v, r, g1, g2, rfl, h1, h2, _⟩ := hx
    cases (show r = [] from h2.1)
    by_cases c : i.natAbs.log2 < 1920
    · have e' : (if i.natAbs.log2 < 1920 then some (D.str (toString i)) else none) = some d := e
      rw [if_pos c] at e'
      cases e'
      cases (show v = .int i from h1.1)
      exact ⟨i, rfl, c, q (.str (toString i)) _ (Rep.o (d := .str (toString i)) rfl)⟩
    · have e' : (if i.natAbs.log2 < 1920 then some (D.str (toString i)) else none) = some d := e
      rw [if_neg c] at e'
      cases e'
/-- tuple(xs) -/
def eTupOf (m : MA) : ME := fun τ => (m τ).bind fun ds τ1 => match freezeL ds with
  | [.lst _ es] => .ok (.tup es) τ1
  | [.tup es] => .ok (.tup es) τ1
  | _ => .bad
theorem e_tupOf {X : Cx} {B : Bx} {W : WX} {x : Str} {p pos : Pos} {e : Expr} {m : MA} (hg : Gl X x) (hm : X.mg x = none) (hv : bootBuiltins x = some (.type "tuple")) (ha : PA X [e] (rdA X.K B W m)) (hn : x ≠ "__name__" := by decide) (hdb : (x == ("__debug__" : Str)) = false := by decide)
    (he : starEach [e] X.env = (false, eval e X.env) :: starEach [] X.env := by rfl) (hpl : (backTo pos (starEach [] X.env)).any (·.1) = false := by rfl) : PE X (.Call (.Name x p) [e] [] pos) (rdE X.K B W (eTupOf m)) := PE.imp (pe_callTy call_tuple_of hg hm hv ha hn hdb he hpl) fun σ H Q ⟨F, τ, vs, ds, s, p⟩ => by
  refine ⟨F, τ, vs, ds, s, post_imp (post_bind p) (fun es τ1 q us F1 H1 hl s1 => ?_) fun _ _ q => q⟩
  obtain ⟨F2, sm, rl, s2⟩ := s1.freeze hl
  match h : freezeL es, q, rl with
  | [.lst b xs], q, rl =>
    obtain ⟨v, r, rfl, r1, r2⟩ := rl
    cases (show r = [] from r2)
    cases b with
    | true => exact r1.elim
    | false =>
      obtain ⟨a, ws, rfl, h1, h2⟩ := r1
      exact ⟨a, ws, rfl, .inl ⟨sqOf (s2.same _ _ h1), fun l hl => q _ _ _ (s2.newTup hl h2)⟩⟩
  | [.tup xs], q, rl =>
    obtain ⟨v, r, rfl, r1, r2⟩ := rl
    cases (show r = [] from r2)
    exact (by
      have r1' := r1
      obtain ⟨a, ws, rfl, h1, h2⟩ := r1
      exact ⟨a, ws, rfl, .inr ⟨sqT_same s2.same h1, q _ _ _ (s2.push r1')⟩⟩)
end Bn
namespace Bn
open PySem PySem.Spec PyProof.Rows L2
/-! ### // by a number of either sign -/
def CDivX (i j : Int) : Prop := j ≠ 0 ∧ j.natAbs.log2 < 9000
instance {i j : Int} : Decidable (CDivX i j) := by unfold CDivX; infer_instance
theorem op_fdivX {X : Cx} : OpR X (binaryOp .FloorDiv) (rI CDivX fun i j => .int (i.fdiv j)) := opI fun i j _ _ _ _ _ hc q => floordiv_int hc.1 q (.inl (PyProof.noPylong_of_log2 hc.2))
def gDivX : D → D → Option D := gIC CDivX fun i j => .int (i.fdiv j)
theorem sDivX {K : PySem.W.Frag} : OpS K (rI CDivX fun i j => .int (i.fdiv j)) gDivX := opS_IC fun _ _ _ _ => rfl
theorem vDivX {i j : Int} (h : j ≠ 0) (h2 : j.natAbs.log2 < 9000) : gDivX (.int i) (.int j) = some (.int (i.fdiv j)) := if_pos ⟨h, h2⟩
end Bn
namespace Bn
open PySem PySem.Spec PyProof.Rows L2
/-- a value given up at once -/
def eFz (m : ME) : ME := fun τ => (m τ).bind fun d τ1 => .ok (freeze d) τ1
theorem e_fz {X : Cx} {B : Bx} {W : WX} {e : Expr} {m : ME} (h : PE X e (rdE X.K B W m)) : PE X e (rdE X.K B W (eFz m)) := PE.imp h fun σ H Q ⟨F, τ, vs, ds, s, p⟩ =>
  ⟨F, τ, vs, ds, s, post_imp (post_bind p) (fun d τ1 q v F1 H1 s1 => by
    obtain ⟨F', sm, ⟨_, _, e2, r, _⟩, s2⟩ := StT.freeze (us := [v]) (es := [d]) s1 rfl
    cases e2
    exact q v F' H1 (s2.push r)) fun _ _ q => q⟩
end Bn

/-! Plain facts of the functions of trees. -/
namespace Bn
open PySem L2
theorem vAdd (i j : Int) : gAdd (.int i) (.int j) = some (.int (i + j)) := rfl
theorem vSub (i j : Int) : gSub (.int i) (.int j) = some (.int (i - j)) := rfl
theorem vMul {i j : Int} (h : CMulW i j) : gMul (.int i) (.int j) = some (.int (i * j)) := if_pos h
theorem vDiv {i j : Int} (h0 : 0 < j) (h : j.natAbs.log2 < 9000) : gDiv (.int i) (.int j) = some (.int (i / j)) := if_pos ⟨h0, h⟩
theorem vMod {i j : Int} (h : 0 < j) : gMod (.int i) (.int j) = some (.int (i % j)) := if_pos h
theorem vPow {i j : Int} (h : CPow i j) : gPow (.int i) (.int j) = some (.int (i ^ j.toNat)) := if_pos h
theorem vLt (i j : Int) : gLt (.int i) (.int j) = some (.bl (decide (i < j))) := rfl
theorem vLe (i j : Int) : gLe (.int i) (.int j) = some (.bl (decide (i ≤ j))) := rfl
theorem vGt (i j : Int) : gGt (.int i) (.int j) = some (.bl (decide (j < i))) := rfl
theorem vGe (i j : Int) : gGe (.int i) (.int j) = some (.bl (decide (j ≤ i))) := rfl
theorem vNeg (i : Int) : gNeg (.int i) = some (.int (-i)) := rfl
theorem vEq (i j : Int) : gEq (.int i) (.int j) = some (.bl (i == j)) := rfl
theorem vNe (i j : Int) : gNe (.int i) (.int j) = some (.bl (!(i == j))) := rfl
theorem vEq2 (a b c d : Int) : gEq (.tup [.int a, .int b]) (.tup [.int c, .int d]) = some (.bl ((a == c) && ((b == d) && true))) := rfl
theorem vNe2 (a b c d : Int) : gNe (.tup [.int a, .int b]) (.tup [.int c, .int d]) = some (.bl (!((a == c) && ((b == d) && true)))) := rfl
theorem vIx0 (xs : List D) (d : D) : gIx (.tup (d :: xs)) (.int 0) = some d := by
  show atI (d :: xs) 0 = some d
  unfold atI ixN
  rw [if_pos (by decide), if_pos (by simp)]
  rfl
theorem atI_of {α : Type} {xs : List α} {k : Nat} {i : Int} (e : i = (k : Int)) : atI xs i = xs[k]? := by
  subst e
  unfold atI ixN
  rw [if_pos (by omega)]
  by_cases h : (k : Int) < xs.length
  · rw [if_pos h]; simp
  · rw [if_neg h]
    rw [List.getElem?_eq_none (by omega)]; rfl
theorem vIxL (m : Bool) (xs : List D) (k : Nat) : gIx (.lst m xs) (.int k) = xs[k]? := atI_of rfl
theorem vIxC (xs : List D) (k : Nat) : gIx (.cst xs) (.int k) = xs[k]? := atI_of rfl
theorem vIxT (xs : List D) (k : Nat) : gIx (.tup xs) (.int k) = xs[k]? := atI_of rfl
theorem vLenL (m : Bool) (xs : List D) : gLen [.lst m xs] = some (.int xs.length) := rfl
theorem vLenC (xs : List D) : gLen [.cst xs] = some (.int xs.length) := rfl
theorem vLenT (xs : List D) : gLen [.tup xs] = some (.int xs.length) := rfl
/-- sizes: from bounds -/
theorem log2_le {n m : Nat} (h : n < 2 ^ m) : n.log2 ≤ m := by
  by_cases z : n = 0
  · subst z; simp
  · have := (Nat.log2_lt z).mpr h
    omega
theorem mulW {i j : Int} (a b : Nat) (h1 : i.natAbs < 2 ^ a) (h2 : j.natAbs < 2 ^ b) (h : a + b < 1000000) : CMulW i j := by
  have := log2_le h1
  have := log2_le h2
  unfold CMulW
  omega
theorem divW {i j : Int} (b : Nat) (h0 : 0 < j) (h2 : j.natAbs < 2 ^ b) (h : b < 9000) : CDivW i j := by
  have := log2_le h2
  exact ⟨h0, by omega⟩
theorem vIx1 (xs : List D) (d e : D) : gIx (.tup (d :: e :: xs)) (.int 1) = some e := vIxT (d :: e :: xs) 1
section
variable {α β : Type} {τ τ' : Env} {d : D} {ds : List D} {c : Str} {x : Bool} {i : Nat}
def seqR (r : SR) (b : MS) : SR := match r with
  | .nx τ' => b τ' | .rt d τ' => .rt d τ' | .bk τ' => .bk τ' | .ct τ' => .ct τ' | .ex c τ' => .ex c τ' | .bad => .bad
theorem x_seq {a b : MS} : sSeq a b τ = seqR (a τ) b := rfl
theorem x_seq1 {b : MS} : seqR (.nx τ) b = b τ := rfl
theorem x_seq2 {b : MS} : seqR (.rt d τ) b = .rt d τ := rfl
theorem x_seq3 {b : MS} : seqR (.bk τ) b = .bk τ := rfl
theorem x_seq4 {b : MS} : seqR (.ct τ) b = .ct τ := rfl
theorem x_seq5 {b : MS} : seqR (.ex c τ) b = .ex c τ := rfl
theorem x_seq6 {b : MS} : seqR .bad b = .bad := rfl
theorem x_nil : sNil τ = .nx τ := rfl
def ifS (r : R Bool) (a b : MS) : SR := r.s fun x τ1 => if x = true then a τ1 else b τ1
theorem x_if {t : MT} {a b : MS} : sIf t a b τ = ifS (t τ) a b := rfl
theorem x_if1 {a b : MS} : ifS (.ok x τ) a b = if x = true then a τ else b τ := rfl
theorem x_if2 {a b : MS} : ifS (.ex c τ) a b = .ex c τ := rfl
theorem x_if3 {a b : MS} : ifS .bad a b = .bad := rfl
def retS (r : R D) : SR := r.s fun d τ1 => .rt d τ1
theorem x_ret {m : ME} : sRet m τ = retS (m τ) := rfl
theorem x_ret1 : retS (.ok d τ) = .rt d τ := rfl
theorem x_ret2 : retS (.ex c τ) = .ex c τ := rfl
theorem x_ret3 : retS .bad = .bad := rfl
theorem x_retN : sRetN τ = .rt .non τ := rfl
def asgG (o : Option Env) : SR := match o with
  | some τ2 => .nx τ2 | none => .bad
def asgS (r : R D) (g : D → Env → Option Env) : SR := r.s fun d τ1 => asgG (g d τ1)
theorem x_asg {m : ME} {g : D → Env → Option Env} : sAsg m g τ = asgS (m τ) g := rfl
theorem x_asg1 {g : D → Env → Option Env} : asgS (.ok d τ) g = asgG (g d τ) := rfl
theorem x_asg2 {g : D → Env → Option Env} : asgS (.ex c τ) g = .ex c τ := rfl
theorem x_asg3 {g : D → Env → Option Env} : asgS .bad g = .bad := rfl
theorem x_asg4 : asgG (some τ) = .nx τ := rfl
theorem x_asg5 : asgG none = .bad := rfl
theorem x_gN : gN i d τ = some (τ.set i (some d)) := rfl
def dropS (r : R D) : SR := r.s fun _ τ1 => .nx τ1
theorem x_drop {m : ME} : sDrop m τ = dropS (m τ) := rfl
theorem x_drop1 : dropS (.ok d τ) = .nx τ := rfl
theorem x_drop2 : dropS (.ex c τ) = .ex c τ := rfl
theorem x_bk : sBk τ = .bk τ := rfl
theorem x_ct : sCt τ = .ct τ := rfl
theorem x_raise : sRaise c τ = .ex c τ := rfl
def tZ' (o : Option D) (τ : Env) : R Bool := match o with
  | some (.bl b) => .ok b τ | _ => .bad
theorem x_tZ {m : MZ} : tZ m τ = tZ' (m τ) τ := rfl
theorem x_tZ1 : tZ' (some (.bl x)) τ = .ok x τ := rfl
theorem x_tZ2 : tZ' none τ = .bad := rfl
def tE' (r : R D) : R Bool := r.bind fun d τ1 => match d with
  | .bl b => .ok b τ1 | _ => .bad
theorem x_tE {m : ME} : tE m τ = tE' (m τ) := rfl
theorem x_tE1 : tE' (.ok (.bl x) τ) = .ok x τ := rfl
theorem x_tE2 : tE' (.ex c τ) = .ex c τ := rfl
theorem x_tE3 : tE' .bad = .bad := rfl
def andT (r : R Bool) (b : MT) : R Bool := r.bind fun x τ1 => if x = true then b τ1 else .ok false τ1
def orT (r : R Bool) (b : MT) : R Bool := r.bind fun x τ1 => if x = true then .ok true τ1 else b τ1
def notT (r : R Bool) : R Bool := r.bind fun x τ1 => .ok (!x) τ1
theorem x_tAnd {a b : MT} : tAnd a b τ = andT (a τ) b := rfl
theorem x_tAnd1 {b : MT} : andT (.ok x τ) b = if x = true then b τ else .ok false τ := rfl
theorem x_tAnd2 {b : MT} : andT (.ex c τ) b = .ex c τ := rfl
theorem x_tAnd3 {b : MT} : andT .bad b = .bad := rfl
theorem x_tOr {a b : MT} : tOr a b τ = orT (a τ) b := rfl
theorem x_tOr1 {b : MT} : orT (.ok x τ) b = if x = true then .ok true τ else b τ := rfl
theorem x_tOr2 {b : MT} : orT (.ex c τ) b = .ex c τ := rfl
theorem x_tOr3 {b : MT} : orT .bad b = .bad := rfl
theorem x_tNot {a : MT} : tNot a τ = notT (a τ) := rfl
theorem x_tNot1 : notT (.ok x τ) = .ok (!x) τ := rfl
theorem x_tNot2 : notT (.ex c τ) = .ex c τ := rfl
theorem x_tNot3 : notT .bad = .bad := rfl
theorem x_tTrue : tTrue τ = .ok true τ := rfl
def z2' (g : D → D → Option D) (a b : Option D) : Option D := a.bind fun a => b.bind fun b => g a b
theorem x_z2 {g : D → D → Option D} {m n : MZ} : z2 g m n τ = z2' g (m τ) (n τ) := rfl
theorem x_z21 {g : D → D → Option D} {a b : D} : z2' g (some a) (some b) = g a b := rfl
def z1' (g : D → Option D) (a : Option D) : Option D := a.bind g
theorem x_z1 {g : D → Option D} {m : MZ} : z1 g m τ = z1' g (m τ) := rfl
theorem x_z11 {g : D → Option D} {a : D} : z1' g (some a) = g a := rfl
def zCb (g : List D → Option D) (a : Option (List D)) : Option D := a.bind g
theorem x_zC {g : List D → Option D} {m : Env → Option (List D)} : zC' g m τ = zCb g (m τ) := rfl
theorem x_zC1 {g : List D → Option D} : zCb g (some ds) = g ds := rfl
def zaC (a : Option D) (b : Option (List D)) : Option (List D) := a.bind fun a => b.bind fun b => some (a :: b)
theorem x_za {m : MZ} {n : Env → Option (List D)} : zaCons m n τ = zaC (m τ) (n τ) := rfl
theorem x_za1 : zaC (some d) (some ds) = some (d :: ds) := rfl
theorem x_za0 : zaNil τ = some [] := rfl
theorem x_zV : zVar i τ = τ.getD i none := rfl
theorem x_zK : zC d τ = some d := rfl
def zCh (g g' : D → D → Option D) (a b : Option D) (c : MZ) (τ : Env) : Option D := a.bind fun x => b.bind fun y => (g x y).bind fun z => match z with
  | .bl true => (c τ).bind fun w => g' y w
  | .bl false => some (.bl false)
  | _ => none
def zCh2 (z : Option D) (g' : D → D → Option D) (y : D) (w : Option D) : Option D := z.bind fun z => match z with
  | .bl true => w.bind fun w => g' y w
  | .bl false => some (.bl false)
  | _ => none
theorem x_ch {g g' : D → D → Option D} {a b e : MZ} : zChain g g' a b e τ = zCh g g' (a τ) (b τ) e τ := rfl
theorem x_ch1 {g g' : D → D → Option D} {a b : D} {e : MZ} : zCh g g' (some a) (some b) e τ = zCh2 (g a b) g' b (e τ) := rfl
theorem x_ch2 {g' : D → D → Option D} {a b : D} : zCh2 (some (.bl x)) g' a (some b) = if x = true then g' a b else some (.bl false) := by cases x <;> rfl
def eZ' (o : Option D) (τ : Env) : R D := match o with
  | some d => if isFz d = true then .ok d τ else .bad
  | none => .bad
theorem x_eZ {m : MZ} : eZ m τ = eZ' (m τ) τ := rfl
theorem x_eZ1 : eZ' (some d) τ = if isFz d = true then .ok d τ else .bad := rfl
theorem x_eZ2 : eZ' none τ = .bad := rfl
def eV' (o : Option D) (i : Nat) (τ : Env) : R D := match o with
  | some d => if isFz d = true then .ok d τ else .ok (freeze d) (τ.set i (some (freeze d)))
  | none => .bad
theorem x_eV : eVar i τ = eV' (τ.getD i none) i τ := rfl
theorem x_eV1 : eV' (some d) i τ = if isFz d = true then .ok d τ else .ok (freeze d) (τ.set i (some (freeze d))) := rfl
def eM' (o : Option D) (i : Nat) (τ : Env) : R D := match o with
  | some d => .ok d (τ.set i none)
  | none => .bad
theorem x_eM : eMv i τ = eM' (τ.getD i none) i τ := rfl
theorem x_eM1 : eM' (some d) i τ = .ok d (τ.set i none) := rfl
theorem x_b1 {a : α} {k : α → Env → R β} : R.bind (.ok a τ) k = k a τ := rfl
theorem x_b2 {k : α → Env → R β} : R.bind (.ex c τ) k = .ex c τ := rfl
theorem x_b3 {k : α → Env → R β} : R.bind .bad k = .bad := rfl
theorem x_s1 {a : α} {k : α → Env → SR} : R.s (.ok a τ) k = k a τ := rfl
theorem x_s2 {k : α → Env → SR} : R.s (.ex c τ) k = .ex c τ := rfl
theorem x_s3 {k : α → Env → SR} : R.s .bad k = .bad := rfl
theorem x_oO : ofO (some d) τ = if isFz d = true then .ok d τ else .bad := rfl
theorem x_oO2 : ofO none τ = .bad := rfl
theorem x_e2 {g : D → D → Option D} {m n : ME} : e2 g m n τ = (m τ).bind fun a τ1 => (n τ1).bind fun b τ2 => ofO (g a b) τ2 := rfl
theorem x_e1 {g : D → Option D} {m : ME} : e1 g m τ = (m τ).bind fun a τ1 => ofO (g a) τ1 := rfl
theorem x_eC {g : List D → Option D} {m : MA} : eC g m τ = (m τ).bind fun a τ1 => ofO (g a) τ1 := rfl
theorem x_aN : aNil τ = .ok [] τ := rfl
theorem x_aC {m : ME} {n : MA} : aCons m n τ = (m τ).bind fun d τ1 => (n τ1).bind fun ds τ2 => .ok (d :: ds) τ2 := rfl
theorem x_tup {m : MA} : eTup m τ = (m τ).bind fun ds τ1 => if ds.length ≤ 1000000 then .ok (.tup (freezeL ds)) τ1 else .bad := rfl
theorem x_lst {m : MA} : eLst m τ = (m τ).bind fun ds τ1 => if ds.length ≤ 1000000 then .ok (.lst true ds) τ1 else .bad := rfl
theorem x_call {g : List D → CR} {m : MA} : eCall g m τ = (m τ).bind fun ds τ1 => ofC (g (freezeL ds)) τ1 := rfl
theorem x_oC1 : ofC (.ok d) τ = .ok d τ := rfl
theorem x_oC2 : ofC (.ex c) τ = .ex c τ := rfl
def c0 (r : CR) (τ : Env) : R D := match r with
  | .ok d => .ok d τ
  | _ => .bad
theorem x_call0 {g : List D → CR} : eCall0 g τ = c0 (g []) τ := rfl
theorem x_call01 : c0 (.ok d) τ = .ok d τ := rfl
def andE (r : R D) (b : ME) : R D := r.bind fun x τ1 => match x with
  | .bl true => b τ1 | .bl false => .ok (.bl false) τ1 | _ => .bad
def orE (r : R D) (b : ME) : R D := r.bind fun x τ1 => match x with
  | .bl false => b τ1 | .bl true => .ok (.bl true) τ1 | _ => .bad
def notE (r : R D) : R D := r.bind fun x τ1 => match x with
  | .bl b => .ok (.bl (!b)) τ1 | _ => .bad
def ifE (r : R Bool) (a b : ME) : R D := r.bind fun x τ1 => if x = true then a τ1 else b τ1
theorem x_eAnd {a b : ME} : eAnd a b τ = andE (a τ) b := rfl
theorem x_eAnd1 {b : ME} : andE (.ok (.bl x) τ) b = if x = true then b τ else .ok (.bl false) τ := by cases x <;> rfl
theorem x_eOr {a b : ME} : eOr a b τ = orE (a τ) b := rfl
theorem x_eOr1 {b : ME} : orE (.ok (.bl x) τ) b = if x = true then .ok (.bl true) τ else b τ := by cases x <;> rfl
theorem x_eNot {a : ME} : eNot a τ = notE (a τ) := rfl
theorem x_eNot1 : notE (.ok (.bl x) τ) = .ok (.bl (!x)) τ := rfl
theorem x_eIf {t : MT} {a b : ME} : eIf t a b τ = ifE (t τ) a b := rfl
theorem x_eIf1 {a b : ME} : ifE (.ok x τ) a b = if x = true then a τ else b τ := rfl
theorem x_fz_int (i : Int) : isFz (.int i) = true := rfl
theorem x_fr_int (i : Int) : freeze (.int i) = .int i := rfl
theorem x_fz_bl (i : Bool) : isFz (.bl i) = true := rfl
theorem x_fr_bl (i : Bool) : freeze (.bl i) = .bl i := rfl
theorem x_fz_str (i : Str) : isFz (.str i) = true := rfl
theorem x_fr_str (i : Str) : freeze (.str i) = .str i := rfl
theorem x_fz_ty (i : String) : isFz (.ty i) = true := rfl
theorem x_fr_ty (i : String) : freeze (.ty i) = .ty i := rfl
theorem x_fz_tup (i : List D) : isFz (.tup i) = true := rfl
theorem x_fr_tup (i : List D) : freeze (.tup i) = .tup i := rfl
theorem x_fz_cst (i : List D) : isFz (.cst i) = true := rfl
theorem x_fr_cst (i : List D) : freeze (.cst i) = .cst i := rfl
theorem x_fz_lst_false (i : List D) : isFz (.lst false i) = true := rfl
theorem x_fr_lst_false (i : List D) : freeze (.lst false i) = .lst false i := rfl
theorem x_fz_non : isFz .non = true := rfl
theorem x_fr_non : freeze .non = .non := rfl
theorem x_fz_lt : isFz (.lst true ds) = false := rfl
theorem x_fr_lt : freeze (.lst true ds) = .lst false (freezeL ds) := rfl
theorem x_fL0 : freezeL [] = [] := rfl
theorem x_fL1 : freezeL (d :: ds) = freeze d :: freezeL ds := rfl
def callR (r : SR) : CR := match r with
  | .nx _ => .ok .non | .rt d _ => .ok d | .ex c _ => .ex c | _ => .bad
theorem x_cF {n N : Nat} {b : MS} : callF n N b ds = if ds.length = n then callR (b (ds.map some ++ List.replicate (N - n) none)) else .bad := rfl
theorem x_cR1 : callR (.nx τ) = .ok .non := rfl
theorem x_cR2 : callR (.rt d τ) = .ok d := rfl
theorem x_cR3 : callR (.ex c τ) = .ex c := rfl
def iL' (d : D) (τ : Env) : R (List D) := match d with
  | .lst _ es => .ok es τ | _ => .bad
def iT' (d : D) (τ : Env) : R (List D) := match d with
  | .tup es => .ok es τ | _ => .bad
def iS' (d : D) (τ : Env) : R (List D) := match d with
  | .str z => .ok (strD z) τ | _ => .bad
def iR1' (d : List D) (τ : Env) : R (List D) := match d with
  | [.int j] => if -(2 ^ 62) ≤ j ∧ j < 2 ^ 62 then .ok (rangeD 0 j.toNat) τ else .bad
  | _ => .bad
def iR2' (d : List D) (τ : Env) : R (List D) := match d with
  | [.int i, .int j] => if -(2 ^ 62) ≤ i ∧ i < 2 ^ 62 ∧ -(2 ^ 62) ≤ j ∧ j < 2 ^ 62 then .ok (rangeD i (j - i).toNat) τ else .bad
  | _ => .bad
def iE' (d : List D) (τ : Env) : R (List D) := match d with
  | [.lst _ es] => .ok (enumD 0 es) τ | _ => .bad
def iV' (d : List D) (τ : Env) : R (List D) := match d with
  | [.lst _ es] => .ok es.reverse τ | _ => .bad
def iZ' (d : List D) (τ : Env) : R (List D) := match d with
  | [.lst _ es, .lst _ fs] => .ok (zipD es fs) τ | _ => .bad
theorem x_iL {m : ME} : iL m τ = (m τ).bind fun d τ1 => iL' (freeze d) τ1 := rfl
theorem x_iL1 {b : Bool} : iL' (.lst b ds) τ = .ok ds τ := rfl
theorem x_iT {m : ME} : iT m τ = (m τ).bind fun d τ1 => iT' d τ1 := rfl
theorem x_iT1 : iT' (.tup ds) τ = .ok ds τ := rfl
theorem x_iS {m : ME} : iS m τ = (m τ).bind fun d τ1 => iS' d τ1 := rfl
theorem x_iS1 {z : Str} : iS' (.str z) τ = .ok (strD z) τ := rfl
theorem x_iR1 {m : MA} : iR1 m τ = (m τ).bind fun d τ1 => iR1' d τ1 := rfl
theorem x_iR11 {j : Int} (h1 : -4611686018427387904 ≤ j) (h2 : j < 4611686018427387904) : iR1' [.int j] τ = .ok (rangeD 0 j.toNat) τ := if_pos ⟨h1, h2⟩
theorem x_iR2 {m : MA} : iR2 m τ = (m τ).bind fun d τ1 => iR2' d τ1 := rfl
theorem x_iR21 {i j : Int} (h1 : -4611686018427387904 ≤ i) (h2 : i < 4611686018427387904) (h3 : -4611686018427387904 ≤ j) (h4 : j < 4611686018427387904) : iR2' [.int i, .int j] τ = .ok (rangeD i (j - i).toNat) τ := if_pos ⟨h1, h2, h3, h4⟩
theorem x_iE {m : MA} : iE m τ = (m τ).bind fun d τ1 => iE' (freezeL d) τ1 := rfl
theorem x_iE1 {b : Bool} : iE' [.lst b ds] τ = .ok (enumD 0 ds) τ := rfl
theorem x_iV {m : MA} : iV m τ = (m τ).bind fun d τ1 => iV' (freezeL d) τ1 := rfl
theorem x_iV1 {b : Bool} : iV' [.lst b ds] τ = .ok ds.reverse τ := rfl
theorem x_iZ {m : MA} : iZ m τ = (m τ).bind fun d τ1 => iZ' (freezeL d) τ1 := rfl
theorem x_iZ1 {b b' : Bool} {es : List D} : iZ' [.lst b ds, .lst b' es] τ = .ok (zipD ds es) τ := rfl
def forB (r : SR) (k : Env → SR) : SR := match r with
  | .nx τ2 => k τ2 | .ct τ2 => k τ2 | .bk τ2 => .nx τ2 | .rt d τ2 => .rt d τ2 | .ex c τ2 => .ex c τ2 | .bad => .bad
def forG (o : Option Env) (b : MS) (k : Env → SR) : SR := match o with
  | none => .bad | some τ1 => forB (b τ1) k
theorem x_for {m : MA} {g : D → Env → Option Env} {b : MS} : sFor m g b τ = (m τ).s fun items τ1 => forL g b items τ1 := rfl
theorem x_fo0 {g : D → Env → Option Env} {b : MS} : forL g b [] τ = .nx τ := rfl
theorem x_fo1 {g : D → Env → Option Env} {b : MS} : forL g b (d :: ds) τ = forG (g d τ) b (forL g b ds) := rfl
theorem x_fo2 {b : MS} {k : Env → SR} : forG (some τ) b k = forB (b τ) k := rfl
theorem x_fo3 {k : Env → SR} : forB (.nx τ) k = k τ := rfl
theorem x_fo4 {k : Env → SR} : forB (.ct τ) k = k τ := rfl
theorem x_fo5 {k : Env → SR} : forB (.bk τ) k = .nx τ := rfl
theorem x_fo6 {k : Env → SR} : forB (.rt d τ) k = .rt d τ := rfl
theorem x_fo7 {k : Env → SR} : forB (.ex c τ) k = .ex c τ := rfl
def gT' (n : Nat) (g : List D → Env → Option Env) (es : List D) (τ : Env) : Option Env := if es.length = n then g es τ else none
theorem x_gT {n : Nat} {g : List D → Env → Option Env} : gT n g (.tup ds) τ = if ds.length = n then g ds τ else none := rfl
theorem x_gC {g : D → Env → Option Env} {h : List D → Env → Option Env} : gCons' g h (d :: ds) τ = (g d τ).bind (h ds) := rfl
theorem x_gC0 : gNil' [] τ = some τ := rfl
def tryB (sub : Str → Option Bool) (r : SR) (su : MS) : SR := match r with
  | .ex c τ' => (match sub c with | some true => noEx (su τ') | some false => .ex c τ' | none => .bad)
  | .nx τ' => .nx τ' | .rt d τ' => .rt d τ' | .bk τ' => .bk τ' | .ct τ' => .ct τ' | .bad => .bad
def tryC (o : Option Bool) (c : Str) (τ' : Env) (su : MS) : SR := match o with
  | some true => noEx (su τ') | some false => .ex c τ' | none => .bad
theorem x_try {sub : Str → Option Bool} {b su : MS} : sTry sub b su τ = tryB sub (b τ) su := rfl
theorem x_try1 {sub : Str → Option Bool} {su : MS} : tryB sub (.nx τ) su = .nx τ := rfl
theorem x_try2 {sub : Str → Option Bool} {su : MS} : tryB sub (.rt d τ) su = .rt d τ := rfl
theorem x_try3 {sub : Str → Option Bool} {su : MS} : tryB sub (.ex c τ) su = tryC (sub c) c τ su := rfl
theorem x_try4 {su : MS} : tryC (some true) c τ su = noEx (su τ) := rfl
theorem x_try5 {su : MS} : tryC (some false) c τ su = .ex c τ := rfl
theorem x_nx1 : noEx (.nx τ) = .nx τ := rfl
theorem x_nx2 : noEx (.rt d τ) = .rt d τ := rfl
theorem x_try6 {sub : Str → Option Bool} {su : MS} : tryB sub (.bk τ) su = .bk τ := rfl
theorem x_try7 {sub : Str → Option Bool} {su : MS} : tryB sub (.ct τ) su = .ct τ := rfl
theorem x_nx3 : noEx (.bk τ) = .bk τ := rfl
theorem x_nx4 : noEx (.ct τ) = .ct τ := rfl
def appS (o : Option D) (i : Nat) (d : D) (τ : Env) : SR := match o with
  | some (.lst true es) => if es.length < 1000000 then .nx (τ.set i (some (.lst true (es ++ [d])))) else .bad
  | _ => .bad
def appT (o : Option D) (i : Nat) (r : R D) : SR := match o with
  | some (.lst true _) => r.s fun d τ1 => appS (τ1.getD i none) i d τ1
  | _ => .bad
theorem x_app {m : ME} : sApp i m τ = appT (τ.getD i none) i (m τ) := rfl
theorem x_app1 {r : R D} : appT (some (.lst true ds)) i r = r.s fun d τ1 => appS (τ1.getD i none) i d τ1 := rfl
theorem x_app2 : appS (some (.lst true ds)) i d τ = if ds.length < 1000000 then .nx (τ.set i (some (.lst true (ds ++ [d])))) else .bad := rfl
def lcE (r : R (List D)) : R D := match r with
  | .ok acc τ2 => .ok (.lst true acc) τ2
  | _ => .bad
def lcG (o : Option Env) (own : List Nat) (g : D → Env → Option Env) (t : MT) (m : ME) (r acc : List D) : R (List D) := match o with
  | none => .bad
  | some τ1 => (t τ1).bind fun b τ2 => if b = true then (m τ2).bind fun e τ3 => if acc.length < 1000000 then lcL own g t m r (acc ++ [e]) (wipeE τ3 own) else .bad else lcL own g t m r acc (wipeE τ2 own)
theorem x_lc {own : List Nat} {it : MA} {g : D → Env → Option Env} {t : MT} {m : ME} : eLc own it g t m τ = (it τ).bind fun items τ1 => lcE (lcL own g t m items [] (wipeE τ1 own)) := rfl
theorem x_lcE : lcE (.ok ds τ) = .ok (.lst true ds) τ := rfl
theorem x_lc0 {own : List Nat} {g : D → Env → Option Env} {t : MT} {m : ME} : lcL own g t m [] ds τ = .ok ds τ := rfl
theorem x_lc1 {own : List Nat} {g : D → Env → Option Env} {t : MT} {m : ME} {r : List D} : lcL own g t m (d :: r) ds τ = lcG (g d τ) own g t m r ds := rfl
theorem x_lcG {own : List Nat} {g : D → Env → Option Env} {t : MT} {m : ME} {r : List D} : lcG (some τ) own g t m r ds = (t τ).bind fun b τ2 => if b = true then (m τ2).bind fun e τ3 => if ds.length < 1000000 then lcL own g t m r (ds ++ [e]) (wipeE τ3 own) else .bad else lcL own g t m r ds (wipeE τ2 own) := rfl
theorem x_w0 : wipeE τ [] = τ := rfl
theorem x_w1 {own : List Nat} : wipeE τ (i :: own) = (wipeE τ own).set i none := rfl
theorem vMinL4 (m : Bool) (a b c d : Int) : gMinL [.lst m [.int a, .int b, .int c, .int d]] = some (.int (minI a [b, c, d])) := rfl
theorem vMaxL4 (m : Bool) (a b c d : Int) : gMaxL [.lst m [.int a, .int b, .int c, .int d]] = some (.int (maxI a [b, c, d])) := rfl
theorem vAll {m : Bool} {ds : List D} {bs : List Bool} (h : boolsOf ds = some bs) : gAll [.lst m ds] = some (.bl (bs.all id)) := by
  show (match boolsOf ds with | some ns => some (D.bl (ns.all id)) | _ => none) = _
  rw [h]
theorem vAny {m : Bool} {ds : List D} {bs : List Bool} (h : boolsOf ds = some bs) : gAny [.lst m ds] = some (.bl (bs.any id)) := by
  show (match boolsOf ds with | some ns => some (D.bl (ns.any id)) | _ => none) = _
  rw [h]
theorem vAll3 (m : Bool) (a b c : Bool) : gAll [.lst m [.bl a, .bl b, .bl c]] = some (.bl ([a, b, c].all id)) := rfl
theorem vAny3 (m : Bool) (a b c : Bool) : gAny [.lst m [.bl a, .bl b, .bl c]] = some (.bl ([a, b, c].any id)) := rfl
theorem vAll4 (m : Bool) (a b c d : Bool) : gAll [.lst m [.bl a, .bl b, .bl c, .bl d]] = some (.bl ([a, b, c, d].all id)) := rfl
theorem vAny4 (m : Bool) (a b c d : Bool) : gAny [.lst m [.bl a, .bl b, .bl c, .bl d]] = some (.bl ([a, b, c, d].any id)) := rfl
def whC (r : R Bool) (b : MS) (k : Env → SR) : SR := match r with
  | .ok true τ1 => forB (b τ1) k | .ok false τ1 => .nx τ1 | .ex e τ1 => .ex e τ1 | .bad => .bad
theorem x_wh {t : MT} {b : MS} {n : Nat} : whileM t b (n + 1) τ = whC (t τ) b (whileM t b n) := by
  show (match t τ with | .ok true τ1 => _ | .ok false τ1 => _ | .ex e τ1 => _ | .bad => _) = _
  unfold whC forB
  cases t τ with
  | ok x τ1 => cases x with
    | true => cases b τ1 <;> rfl
    | false => rfl
  | ex e τ1 => rfl
  | bad => rfl
theorem x_wh1 {b : MS} {k : Env → SR} : whC (.ok true τ) b k = forB (b τ) k := rfl
theorem x_wh2 {b : MS} {k : Env → SR} : whC (.ok false τ) b k = .nx τ := rfl
theorem x_wh0 {f : Env → Nat} {t : MT} {b : MS} : sWhile f t b τ = whileM t b (f τ) τ := rfl
theorem x_abs {i : Int} : gAbs [.int i] = some (.int (if i < 0 then -i else i)) := rfl
theorem vI_ii {i : Int} : gIsi [.int i, .ty "int"] = some (.bl true) := rfl
theorem vI_ib {i : Int} : gIsi [.int i, .ty "bool"] = some (.bl false) := rfl
theorem vI_it {i : Int} : gIsi [.int i, .ty "tuple"] = some (.bl false) := rfl
theorem vI_il {i : Int} : gIsi [.int i, .ty "list"] = some (.bl false) := rfl
theorem vI_is {i : Int} : gIsi [.int i, .ty "str"] = some (.bl false) := rfl
theorem vI_bb {i : Bool} : gIsi [.bl x, .ty "bool"] = some (.bl true) := rfl
theorem vI_bi {i : Bool} : gIsi [.bl x, .ty "int"] = some (.bl true) := rfl
theorem vI_tt {i : Bool} : gIsi [.tup ds, .ty "tuple"] = some (.bl true) := rfl
theorem vI_tl {i : Bool} : gIsi [.tup ds, .ty "list"] = some (.bl false) := rfl
theorem vI_ti {i : Bool} : gIsi [.tup ds, .ty "int"] = some (.bl false) := rfl
theorem vI_ll {i : Bool} : gIsi [.lst i ds, .ty "list"] = some (.bl true) := rfl
theorem vI_lt {i : Bool} : gIsi [.lst i ds, .ty "tuple"] = some (.bl false) := rfl
theorem vI_ss {i : Str} : gIsi [.str i, .ty "str"] = some (.bl true) := rfl
theorem vEqB {i j : Bool} : gEq (.bl i) (.bl j) = some (.bl (i == j)) := rfl
theorem vNeB {i j : Bool} : gNe (.bl i) (.bl j) = some (.bl (!(i == j))) := rfl
def asB (i : Nat) (sub : Str → Option Bool) (r : SR) (su : Str → MS) : SR := match r with
  | .ex c τ' => tryAs i (sub c) c τ' su
  | .nx τ' => .nx τ' | .rt d τ' => .rt d τ' | .bk τ' => .bk τ' | .ct τ' => .ct τ' | .bad => .bad
theorem x_ta {sub : Str → Option Bool} {b : MS} {su : Str → MS} : sTryAs i sub b su τ = asB i sub (b τ) su := rfl
theorem x_ta1 {sub : Str → Option Bool} {su : Str → MS} : asB i sub (.ex c τ) su = tryAs i (sub c) c τ su := rfl
theorem x_ta2 {sub : Str → Option Bool} {su : Str → MS} : asB i sub (.nx τ) su = .nx τ := rfl
theorem x_ta3 {su : Str → MS} : tryAs i (some true) c τ su = if i < τ.length then endAs i (su c (τ.set i none)) else .bad := rfl
theorem x_ta4 : endAs i (.nx τ) = .nx (τ.set i none) := rfl
theorem x_ta5 : endAs i (.rt d τ) = .rt d τ := rfl
theorem x_is : eIs (some x) τ = .ok (.bl x) τ := rfl
theorem nc_0 : ((0 : Nat) : Int) = 0 := rfl
theorem nc_1 : ((1 : Nat) : Int) = 1 := rfl
theorem nc_2 : ((2 : Nat) : Int) = 2 := rfl
theorem nc_3 : ((3 : Nat) : Int) = 3 := rfl
theorem nc_4 : ((4 : Nat) : Int) = 4 := rfl
theorem nc_5 : ((5 : Nat) : Int) = 5 := rfl
theorem nc_6 : ((6 : Nat) : Int) = 6 := rfl
theorem nc_7 : ((7 : Nat) : Int) = 7 := rfl
theorem nc_8 : ((8 : Nat) : Int) = 8 := rfl
theorem nc_9 : ((9 : Nat) : Int) = 9 := rfl
theorem nc_10 : ((10 : Nat) : Int) = 10 := rfl
theorem nc_11 : ((11 : Nat) : Int) = 11 := rfl
def mxI (i j : Int) : Int := if j > i then j else i
def mnI (i j : Int) : Int := if j < i then j else i
theorem mxI_le (i j : Int) : i ≤ mxI i j ∧ j ≤ mxI i j ∧ (mxI i j = i ∨ mxI i j = j) := by unfold mxI; split <;> omega
theorem mnI_le (i j : Int) : mnI i j ≤ i ∧ mnI i j ≤ j ∧ (mnI i j = i ∨ mnI i j = j) := by unfold mnI; split <;> omega
theorem vMax2 {i j : Int} : gMax2 [.int i, .int j] = some (.int (mxI i j)) := rfl
theorem vMin2 {i j : Int} : gMin2 [.int i, .int j] = some (.int (mnI i j)) := rfl
theorem vIsN0 : gIsN .non .non = some (.bl true) := rfl
theorem vIsN1 {i : List D} : gIsN (.tup i) .non = some (.bl false) := rfl
theorem vNotN0 : gNotN .non .non = some (.bl false) := rfl
theorem vNotN1 {i : List D} : gNotN (.tup i) .non = some (.bl true) := rfl
theorem vIsN2 {i : Int} : gIsN (.int i) .non = some (.bl false) := rfl
theorem vNotN2 {i : Int} : gNotN (.int i) .non = some (.bl true) := rfl
def loD (ds : List D) (τ : Env) : R D := match ds with
  | [.lst _ es] => .ok (.lst true es) τ
  | [.tup es] => .ok (.lst true es) τ
  | _ => .bad
theorem x_lo {m : MA} : eLstOf m τ = (m τ).bind fun ds τ1 => loD (freezeL ds) τ1 := rfl
theorem x_lo1 {b : Bool} : loD [.lst b ds] τ = .ok (.lst true ds) τ := rfl
theorem x_lo2 : loD [.tup ds] τ = .ok (.lst true ds) τ := rfl
theorem vAll2 (m : Bool) (a b : Bool) : gAll [.lst m [.bl a, .bl b]] = some (.bl ([a, b].all id)) := rfl
theorem vAny2 (m : Bool) (a b : Bool) : gAny [.lst m [.bl a, .bl b]] = some (.bl ([a, b].any id)) := rfl
def slE (o : Option D) (τ : Env) : R D := match o with
  | some x => .ok x τ | none => .bad
theorem x_sl {f : D → Option Int → Option Int → Option D} {m : ME} {p r : Env → R (Option Int)} : eSlice f m p r τ = (m τ).bind fun d τ1 => slR (freeze d) p r f τ1 := rfl
theorem x_sl1 {f : D → Option Int → Option Int → Option D} {p r : Env → R (Option Int)} : slR d p r f τ = (p τ).bind fun lo τ1 => (r τ1).bind fun hi τ2 => slE (f d lo hi) τ2 := rfl
theorem x_sl2 : slE (some d) τ = .ok d τ := rfl
theorem x_pn : pNone τ = .ok none τ := rfl
def psI (d : D) (τ : Env) : R (Option Int) := match d with
  | .int i => .ok (some i) τ | _ => .bad
theorem x_ps {m : ME} : pSome m τ = (m τ).bind fun d τ1 => psI d τ1 := rfl
theorem x_ps1 {i : Int} : psI (.int i) τ = .ok (some i) τ := rfl
theorem x_cutL {b : Bool} {l h : Option Int} : cutLd (.lst b ds) l h = some (.lst true (cutL ds l h)) := rfl
theorem x_cutC {l h : Option Int} : cutLd (.cst ds) l h = some (.lst true (cutL ds l h)) := rfl
theorem okP_str {i : Str} (h : PySem.PyData.strOk i = true) : okP (.str i) = true := by
  show (true && (PySem.PyData.canLay0 (.str i) && decide (PySem.PyData.depth (.str i) ≤ 64))) = true
  rw [show PySem.PyData.canLay0 (.str i) = true from h]
  rfl
theorem vEqS {i j : Str} (h1 : PySem.PyData.strOk i = true) (h2 : PySem.PyData.strOk j = true) : gEq (.str i) (.str j) = some (.bl (i == j)) := if_pos ⟨okP_str h1, okP_str h2⟩
theorem vNeS {i j : Str} (h1 : PySem.PyData.strOk i = true) (h2 : PySem.PyData.strOk j = true) : gNe (.str i) (.str j) = some (.bl (!(i == j))) := if_pos ⟨okP_str h1, okP_str h2⟩
theorem x_fz_obj {ns : List Str} : isFz (.obj false c ns ds) = true := rfl
theorem x_fr_obj {ns : List Str} : freeze (.obj false c ns ds) = .obj false c ns ds := rfl
theorem x_make {m : MA} {ns : List Str} : eMake c ns m τ = (m τ).bind fun ds τ1 => if ds.length = ns.length then .ok (.obj false c ns (freezeL ds)) τ1 else .bad := rfl
theorem x_fld {b : Bool} {f c' : Str} {ns : List Str} : gFld c f (.obj b c' ns ds) = if c' = c then lookD f ns ds else none := rfl
theorem x_look {f n : Str} {ns : List Str} : lookD f (n :: ns) (d :: ds) = if f = n then some d else lookD f ns ds := rfl
def methC (o : Option (List D → CR)) (b : Bool) (d : D) (ma : MA) (τ1 : Env) : R D := match o with
  | some g => if b = true then .bad else (ma τ1).bind fun ds τ2 => ofC (g (d :: freezeL ds)) τ2
  | none => .bad
def methA (As : List (Str × (List D → CR))) (m : Str) (d : D) (ma : MA) (τ1 : Env) : R D := match d with
  | .obj false c ns xs => methC (As.lookup c) (ns.contains m) (.obj false c ns xs) ma τ1
  | _ => .bad
theorem x_meth {As : List (Str × (List D → CR))} {m : Str} {mo : ME} {ma : MA} : eMeth As m mo ma τ = (mo τ).bind fun d τ1 => methA As m d ma τ1 := by
  show (mo τ).bind _ = _
  congr 1
theorem x_meth2 {As : List (Str × (List D → CR))} {m : Str} {ns : List Str} {ma : MA} : methA As m (.obj false c ns ds) ma τ = methC (As.lookup c) (ns.contains m) (.obj false c ns ds) ma τ := rfl
theorem x_meth3 {g : List D → CR} {ma : MA} : methC (some g) false d ma τ = (ma τ).bind fun ds τ2 => ofC (g (d :: freezeL ds)) τ2 := rfl
def isOD (tbl : Str → Option Bool) (o : Option D) : Option D := o.bind fun d => match d with
  | .obj _ c _ _ => (tbl c).map D.bl
  | _ => none
theorem x_isO {tbl : Str → Option Bool} {m : MZ} : zIsO tbl m τ = isOD tbl (m τ) := rfl
theorem x_isO1 {tbl : Str → Option Bool} {b : Bool} {ns : List Str} : isOD tbl (some (.obj b c ns ds)) = (tbl c).map D.bl := rfl
theorem x_cat {a b : ME} : eCat a b τ = (a τ).bind fun x τ1 => (b τ1).bind fun y τ2 => slE' (catD (freeze x) (freeze y)) τ2 := rfl
theorem x_cat1 : slE' (some d) τ = .ok d τ := rfl
theorem vCat {xs ys : List D} (h : xs.length + ys.length ≤ 1000000) : catD (.lst false xs) (.lst false ys) = some (.lst true (xs ++ ys)) := if_pos h
def callZ (g : List D → CR) (o : Option (List D)) (τ : Env) : R D := match o with
  | some ds => lendR (g (freezeL ds)) τ
  | none => .bad
def methZC (o : Option (List D → CR)) (b : Bool) (d : D) (a : Option (List D)) (τ1 : Env) : R D := match o with
  | some g => if b = true then .bad else (match a with
    | some ds => lendR (g (d :: freezeL ds)) τ1
    | none => .bad)
  | none => .bad
def methZA (As : List (Str × (List D → CR))) (m : Str) (d : D) (a : Option (List D)) (τ1 : Env) : R D := match d with
  | .obj false c ns xs => methZC (As.lookup c) (ns.contains m) (.obj false c ns xs) a τ1
  | _ => .bad
theorem x_methZ {As : List (Str × (List D → CR))} {m : Str} {mo : ME} {ma : Env → Option (List D)} : eMethZ As m mo ma τ = (mo τ).bind fun d τ1 => methZA As m d (ma τ1) τ1 := by
  show (mo τ).bind _ = _
  congr 1
  all_goals (
    funext d τ1
    cases d with
    | obj b c ns xs =>
      cases b with
      | true => rfl
      | false =>
        unfold methZA methZC
        cases As.lookup c <;> rfl
    | _ => rfl)
def setIx1 (o : Option D) (k : Option D) (i : Nat) (d : D) (τ1 : Env) : SR := match o with
  | some (.lst true es) => (match k with
    | some (.int k) => (match setD es k d with
      | some es' => .nx (τ1.set i (some (.lst true es')))
      | none => .bad)
    | _ => .bad)
  | _ => .bad
def setIx2 (o : Option (List D)) (i : Nat) (τ1 : Env) : SR := match o with
  | some es' => .nx (τ1.set i (some (.lst true es')))
  | none => .bad
theorem x_methZ2 {As : List (Str × (List D → CR))} {m : Str} {ns : List Str} {a : Option (List D)} : methZA As m (.obj false c ns ds) a τ = methZC (As.lookup c) (ns.contains m) (.obj false c ns ds) a τ := rfl
theorem x_methZ3 {g : List D → CR} : methZC (some g) false d (some ds) τ = lendR (g (d :: freezeL ds)) τ := rfl
theorem x_callZ {g : List D → CR} {m : Env → Option (List D)} : eCallZ g m τ = callZ g (m τ) τ := rfl
theorem x_callZ1 {g : List D → CR} : callZ g (some ds) τ = lendR (g (freezeL ds)) τ := rfl
theorem x_lend1 : lendR (.ok d) τ = if clean d = true then .ok d τ else .bad := rfl
theorem x_lend2 : lendR (.ex c) τ = .ex c τ := rfl
theorem x_cl_int {i : Int} : clean (.int i) = true := rfl
theorem x_cl_bl {i : Bool} : clean (.bl i) = true := rfl
theorem x_cl_str {i : Str} : clean (.str i) = true := rfl
theorem x_cl_non : clean .non = true := rfl
theorem x_cl_tup : clean (.tup ds) = cleanL ds := rfl
theorem x_cl0 : cleanL [] = true := rfl
theorem x_cl1 : cleanL (d :: ds) = (clean d && cleanL ds) := rfl
theorem x_cl_lst : clean (.lst true ds) = cleanL ds := Bool.true_and _
theorem x_setIx {mi : MZ} {m : ME} : sSetIx i mi m τ = (m τ).s fun d τ1 => setIx1 (τ1.getD i none) (mi τ1) i d τ1 := rfl
theorem x_setIx1 {k : Int} : setIx1 (some (.lst true ds)) (some (.int k)) i d τ = setIx2 (setD ds k d) i τ := rfl
def lcB (o : Option D) (own : List Nat) (i : Nat) (g : D → Env → Option Env) (t : MT) (m : ME) (τ : Env) : R D := match o with
  | some (.lst true es) => if es.all isFz = true then (match lcL own g t m es [] (wipeE (τ.set i none) own) with
    | .ok acc τ2 => .ok (.lst true acc) (τ2.set i (some (.lst true es)))
    | _ => .bad) else .bad
  | _ => .bad
theorem lcB_ok {own : List Nat} {g : D → Env → Option Env} {t : MT} {m : ME} {es acc : List D} (h : τ.getD i none = some (.lst true es)) (hz : es.all isFz = true) (e : lcL own g t m es [] (wipeE (τ.set i none) own) = .ok acc τ') : eLcB own i g t m τ = .ok (.lst true acc) (τ'.set i (some (.lst true es))) := by
  show lcB (τ.getD i none) own i g t m τ = _
  rw [h]
  show (if es.all isFz = true then (match lcL own g t m es [] (wipeE (τ.set i none) own) with | .ok acc τ2 => R.ok (D.lst true acc) (τ2.set i (some (.lst true es))) | _ => R.bad) else R.bad) = _
  rw [if_pos hz, e]
theorem x_setIx2 : setIx2 (some ds) i τ = .nx (τ.set i (some (.lst true ds))) := rfl
theorem vSetD {es : List D} {j : Nat} {k : Int} (e : k = (j : Nat)) (h : j < es.length) : setD es k d = some (es.set j d) := by
  subst e
  unfold setD ixN
  rw [if_pos (by omega), if_pos (by omega)]
  rfl
theorem vInD {a : D} {m : Bool} {xs : List D} (h1 : okP a = true) (h2 : okP (.lst m xs) = true) : gInD false a (.lst m xs) = some (.bl ((toPs xs).any fun z => PyData.eqv z (toP a))) := if_pos ⟨h1, h2⟩
theorem vNotInD {a : D} {m : Bool} {xs : List D} (h1 : okP a = true) (h2 : okP (.lst m xs) = true) : gInD true a (.lst m xs) = some (.bl (!(toPs xs).any fun z => PyData.eqv z (toP a))) := if_pos ⟨h1, h2⟩
def callI3 (r : CR2) (is : List Nat) (τ2 : Env) : R D := match r with
  | .ok d outs => if outs.length = is.length then .ok d (putD is outs τ2) else .bad
  | .bad => .bad
def callI2 (o : Option (List D × Env)) (g : List D → CR2) (is : List Nat) (ds : List D) : R D := match o with
  | none => .bad
  | some (ios, τ2) => callI3 (g (ios ++ freezeL ds)) is τ2
def takeC (o : Option D) (i : Nat) (is : List Nat) (τ : Env) : Option (List D × Env) := match o with
  | none => none
  | some d => (takeD is (τ.set i none)).map fun p => (d :: p.1, p.2)
def callRI (k : Nat) (r : SR) : CR2 := match r with
  | .nx τ => outR k .non τ
  | .rt d τ => outR k d τ
  | _ => .bad
def outR1 (o : Option (List D)) (d : D) : CR2 := match o with
  | some os => .ok d os
  | none => .bad
def parS (i j : Nat) (r : R (List D)) : SR := r.s fun ds τ1 => match ds with
  | [x, y] => .nx ((τ1.set i (some x)).set j (some y))
  | _ => .bad
def sortR2 (o : Option (List Int)) (τ1 : Env) : R D := match o with
  | some ns => .ok (.lst true ((sortI ns).map D.int)) τ1
  | none => .bad
def sortR (ds : List D) (τ1 : Env) : R D := match ds with
  | [.lst _ es] => sortR2 (intsOf es) τ1
  | _ => .bad
theorem x_callI {g : List D → CR2} {is : List Nat} {m : MA} : eCallI g is m τ = if is.all (fun i => (τ.getD i none).isSome) = true then (m τ).bind fun ds τ1 => callI g is ds τ1 else .bad := rfl
theorem x_callI1 {g : List D → CR2} {is : List Nat} : callI g is ds τ = callI2 (takeD is τ) g is ds := by unfold callI; cases takeD is τ <;> rfl
theorem x_callI2 {g : List D → CR2} {is : List Nat} {ios : List D} : callI2 (some (ios, τ)) g is ds = callI3 (g (ios ++ freezeL ds)) is τ := rfl
theorem x_callI3 {is : List Nat} : callI3 (.ok d ds) is τ = if ds.length = is.length then .ok d (putD is ds τ) else .bad := rfl
theorem x_take0 : takeD [] τ = some ([], τ) := rfl
theorem x_take1 {is : List Nat} : takeD (i :: is) τ = takeC (τ.getD i none) i is τ := by show (match τ.getD i none with | none => none | some d => _) = _; cases τ.getD i none <;> rfl
theorem x_take2 {is : List Nat} : takeC (some d) i is τ = (takeD is (τ.set i none)).map fun p => (d :: p.1, p.2) := rfl
theorem x_put0 : putD [] [] τ = τ := rfl
theorem x_put1 {is : List Nat} : putD (i :: is) (d :: ds) τ = putD is ds (τ.set i (some d)) := rfl
theorem x_cFI {n N k : Nat} {b : MS} : callFI n N k b ds = if ds.length = n then callRI k (b (ds.map some ++ List.replicate (N - n) none)) else .bad := rfl
theorem x_cRI1 {k : Nat} : callRI k (.nx τ) = outR k .non τ := rfl
theorem x_cRI2 {k : Nat} : callRI k (.rt d τ) = outR k d τ := rfl
theorem x_outR {k : Nat} : outR k d τ = outR1 (outsE k τ) d := by unfold outR outR1; cases outsE k τ <;> rfl
theorem x_outR1 : outR1 (some ds) d = .ok d ds := rfl
theorem x_out1 {a : D} : outsE 1 (some a :: τ) = some [a] := rfl
theorem x_out2 {a b : D} : outsE 2 (some a :: some b :: τ) = some [a, b] := rfl
theorem x_par {j : Nat} {m : MA} : sPar i j m τ = parS i j (m τ) := rfl
theorem x_par1 {j : Nat} {a b : D} : parS i j (.ok [a, b] τ) = .nx ((τ.set i (some a)).set j (some b)) := rfl
theorem x_sort {m : MA} : eSorted m τ = (m τ).bind fun ds τ1 => sortR (freezeL ds) τ1 := rfl
theorem x_sort1 {b : Bool} : sortR [.lst b ds] τ = sortR2 (intsOf ds) τ := rfl
theorem x_sort2 {ns : List Int} : sortR2 (some ns) τ = .ok (.lst true ((sortI ns).map D.int)) τ := rfl
theorem x_io2 {a b : Int} : intsOf [.int a, .int b] = some [a, b] := rfl
theorem x_io4 {a b c d : Int} : intsOf [.int a, .int b, .int c, .int d] = some [a, b, c, d] := rfl
theorem vMulS {i j : Int} (h : CMul i j) : gMulS (.int i) (.int j) = some (.int (i * j)) := if_pos h
theorem vIsB {a b : Bool} : gIsB (.bl a) (.bl b) = some (.bl (decide (a = b))) := rfl
theorem vIndex {a : D} {m : Bool} {xs : List D} (h1 : okP a = true) (h2 : okP (.lst m xs) = true) {j : Nat} (h : findP (toP a) (toPs xs) 0 = some j) : gIndex (.lst m xs) a = some (.int (j : Nat)) := by
  show (if okP a = true ∧ okP (.lst m xs) = true then (findP (toP a) (toPs xs) 0).map fun j => D.int (j : Nat) else none) = _
  rw [if_pos ⟨h1, h2⟩, h]; rfl
def lrD (d : D) (τ : Env) : R D := match d with
  | .lst _ es => .ok (.lst true es.reverse) τ
  | _ => .bad
def clrT (o : Option D) (i : Nat) (τ : Env) : SR := match o with
  | some (.lst true _) => .nx (τ.set i (some (.lst true [])))
  | _ => .bad
def clrE (o : Option D) (i j : Nat) (τ : Env) : SR := match o with
  | some (.lst true es) => if es.all isOwnL = true ∧ j < τ.length then .nx ((τ.set j none).set i (some (.lst true (clrL es.length es)))) else .bad
  | _ => .bad
def popS (o : Option (List D)) (i : Nat) (τ : Env) : SR := match o with
  | some es' => .nx (τ.set i (some (.lst true es')))
  | none => .bad
def popT (o k : Option D) (i : Nat) (τ : Env) : SR := match o with
  | some (.lst true es) => (match k with
    | some (.int k) => popS (popD es k) i τ
    | _ => .bad)
  | _ => .bad
def insS (o : Option D) (k : Int) (i : Nat) (d : D) (τ1 : Env) : SR := match o with
  | some (.lst true es) => if es.length < 1000000 ∧ 0 ≤ k ∧ k < 2 ^ 63 then .nx (τ1.set i (some (.lst true (es.take k.toNat ++ [d] ++ es.drop k.toNat)))) else .bad
  | _ => .bad
def insT (o k : Option D) (i : Nat) (r : R D) : SR := match o, k with
  | some (.lst true _), some (.int k) => r.s fun d τ1 => insS (τ1.getD i none) k i d τ1
  | _, _ => .bad
theorem x_pop {mi : MZ} : sPopAt i mi τ = popT (τ.getD i none) (mi τ) i τ := by
  unfold sPopAt popT popS
  rfl
theorem x_lr {m : ME} : eLstRev m τ = (m τ).bind fun d τ1 => lrD (freeze d) τ1 := rfl
theorem x_lr1 {b : Bool} : lrD (.lst b ds) τ = .ok (.lst true ds.reverse) τ := rfl
theorem x_clr : sClear i τ = clrT (τ.getD i none) i τ := rfl
theorem x_clr1 : clrT (some (.lst true ds)) i τ = .nx (τ.set i (some (.lst true []))) := rfl
theorem x_clrE {j : Nat} : sClearEach i j τ = clrE (τ.getD i none) i j τ := rfl
theorem x_clrE1 {j : Nat} : clrE (some (.lst true ds)) i j τ = if ds.all isOwnL = true ∧ j < τ.length then .nx ((τ.set j none).set i (some (.lst true (clrL ds.length ds)))) else .bad := rfl
theorem x_pop1 {k : Int} : popT (some (.lst true ds)) (some (.int k)) i τ = popS (popD ds k) i τ := rfl
theorem x_pop2 : popS (some ds) i τ = .nx (τ.set i (some (.lst true ds))) := rfl
theorem x_ins {mi : MZ} {m : ME} : sIns i mi m τ = insT (τ.getD i none) (mi τ) i (m τ) := rfl
theorem x_ins1 {k : Int} {r : R D} : insT (some (.lst true ds)) (some (.int k)) i r = r.s fun d τ1 => insS (τ1.getD i none) k i d τ1 := rfl
theorem x_ins2 {k : Int} : insS (some (.lst true ds)) k i d τ = if ds.length < 1000000 ∧ 0 ≤ k ∧ k < 2 ^ 63 then .nx (τ.set i (some (.lst true (ds.take k.toNat ++ [d] ++ ds.drop k.toNat)))) else .bad := rfl
theorem x_sk {p r : Env → R (Option Int)} : eSliceK i p r τ = skD (τ.getD i none) i p r τ := rfl
theorem x_sk1 {p r : Env → R (Option Int)} : skD (some (.lst true ds)) i p r τ = if ds.all isFz = true then skP (p (τ.set i none)) ds i r else .bad := rfl
theorem x_sk2 {o : Option Int} {r : Env → R (Option Int)} : skP (.ok o τ) ds i r = skQ (r τ) ds o i := rfl
theorem x_sk3 {o o' : Option Int} : skQ (.ok o' τ) ds o i = .ok (.lst true (cutL ds o o')) (τ.set i (some (.lst true ds))) := rfl
theorem x_ck {g : List D → CR} {m : MA} : eCallK g i m τ = if (τ.getD i none).isSome = true then (m τ).bind fun es τ1 => ckR g (τ1.getD i none) es τ1 else .bad := rfl
theorem x_ck1 {g : List D → CR} : ckR g (some d) ds τ = lendR (g (freezeL [d] ++ freezeL ds)) τ := rfl
theorem x_lk : eLstK i τ = lkR (τ.getD i none) τ := rfl
theorem x_lk1 : lkR (some (.lst true ds)) τ = if ds.all isFz = true then .ok (.lst true ds) τ else .bad := rfl
theorem x_fzE {m : ME} : eFz m τ = (m τ).bind fun d τ1 => .ok (freeze d) τ1 := rfl
theorem vInt1 {j : Int} : gInt [.int j] = some (.int j) := rfl
theorem vInt2 {b : Bool} : gInt [.bl b] = some (.int (if b then 1 else 0)) := rfl
def tupR (l : List D) (τ : Env) : R D := match l with
  | [.lst _ es] => .ok (.tup es) τ
  | [.tup es] => .ok (.tup es) τ
  | _ => .bad
theorem x_tupO {m : MA} : eTupOf m τ = (m τ).bind fun ds τ1 => tupR (freezeL ds) τ1 := rfl
theorem x_tupO1 {b : Bool} : tupR [.lst b ds] τ = .ok (.tup ds) τ := rfl
theorem x_tupO2 : tupR [.tup ds] τ = .ok (.tup ds) τ := rfl
end
end Bn

/-! Plain helpers: data equal to itself, loops, comprehensions, ranges. -/
namespace Bn
open PySem L2
/-- data, nested at most n deep -/
structure Ok (n : Nat) (d : D) : Prop where
  h : hasP d = true
  l : (toP d).canLay0 = true
  d : (toP d).depth ≤ n
theorem ok_int {n : Nat} (i : Int) : Ok n (.int i) := ⟨rfl, by simp [toP, PyData.canLay0], by simp [toP, PyData.depth]⟩
theorem ok_bl {n : Nat} (i : Bool) : Ok n (.bl i) := ⟨rfl, by simp [toP, PyData.canLay0], by simp [toP, PyData.depth]⟩
theorem ok_non {n : Nat} : Ok n .non := ⟨rfl, by simp [toP, PyData.canLay0], by simp [toP, PyData.depth]⟩
theorem ok_str {n : Nat} {i : Str} (h : PyData.strOk i = true) : Ok n (.str i) := ⟨rfl, by simpa [toP, PyData.canLay0] using h, by simp [toP, PyData.depth]⟩
theorem ok_all {n : Nat} : ∀ {ds : List D}, (∀ d ∈ ds, Ok n d) → hasPs ds = true ∧ PyData.canLayAll0 (toPs ds) = true ∧ PyData.depthAll (toPs ds) ≤ n
  | [], _ => ⟨rfl, rfl, Nat.zero_le _⟩
  | d :: ds, h => by
    obtain ⟨h1, h2, h3⟩ := h d List.mem_cons_self
    obtain ⟨k1, k2, k3⟩ := ok_all fun e he => h e (List.mem_cons_of_mem _ he)
    refine ⟨?_, ?_, ?_⟩
    · show (hasP d && hasPs ds) = true
      rw [h1, k1]; rfl
    · show PyData.canLayAll0 (toP d :: toPs ds) = true
      simp [PyData.canLayAll0, h2, k2]
    · show PyData.depthAll (toP d :: toPs ds) ≤ n
      simp only [PyData.depthAll]
      omega
theorem ok_tup {n : Nat} {ds : List D} (h : ∀ d ∈ ds, Ok n d) : Ok (n + 1) (.tup ds) := by
  obtain ⟨h1, h2, h3⟩ := ok_all h
  exact ⟨h1, by simpa [toP, PyData.canLay0] using h2, by simp only [toP, PyData.depth]; omega⟩
theorem ok_lst {n : Nat} {b : Bool} {ds : List D} (h : ∀ d ∈ ds, Ok n d) : Ok (n + 1) (.lst b ds) := by
  obtain ⟨h1, h2, h3⟩ := ok_all h
  exact ⟨h1, by simpa [toP, PyData.canLay0] using h2, by simp only [toP, PyData.depth]; omega⟩
theorem Ok.p {n : Nat} {d : D} (h : Ok n d) (hn : n ≤ 64 := by decide) : okP d = true := by
  unfold okP SeqAt.shaped
  rw [h.h, h.l, decide_eq_true (Nat.le_trans h.d hn)]; rfl
theorem eqP_self {n : Nat} {a b : D} (h : Ok n a) (e : toP b = toP a) : eqP a b = true := by
  unfold eqP
  rw [e]
  exact SeqAt.eqv_refl _ h.l
theorem vEqX {n : Nat} {a b : D} (h : Ok n a) (k : Ok n b) (e : toP b = toP a) (hn : n ≤ 64 := by decide) : gEq a b = some (.bl true) := by
  unfold gEq
  rw [if_pos ⟨h.p hn, k.p hn⟩, eqP_self h e]
theorem vNeX {n : Nat} {a b : D} (h : Ok n a) (k : Ok n b) (e : toP b = toP a) (hn : n ≤ 64 := by decide) : gNe a b = some (.bl false) := by
  unfold gNe
  rw [if_pos ⟨h.p hn, k.p hn⟩, eqP_self h e]; rfl
theorem toP_lst (b b' : Bool) (ds : List D) : toP (.lst b ds) = toP (.lst b' ds) := by simp only [toP]
/-! ### walks over lists -/
section
variable {g : D → Env → Option Env} {b : MS} {own : List Nat} {t : MT} {m : ME}
/-- a loop with an invariant of the turn's number -/
theorem for_idx (I : Nat → Env → Prop) : ∀ (items : List D) (k0 : Nat) (τ : Env), (∀ k d τ, items[k]? = some d → I (k0 + k) τ → ∃ τ1 τ2, g d τ = some τ1 ∧ (b τ1 = .nx τ2 ∨ b τ1 = .ct τ2) ∧ I (k0 + k + 1) τ2) → I k0 τ → ∃ τ', forL g b items τ = .nx τ' ∧ I (k0 + items.length) τ'
  | [], k0, τ, _, h => ⟨τ, rfl, h⟩
  | d :: ds, k0, τ, hs, h => by
    obtain ⟨τ1, τ2, e1, e2, h2⟩ := hs 0 d τ rfl h
    obtain ⟨τ', e3, h3⟩ := for_idx I ds (k0 + 1) τ2 (fun k d τ hk hI => by
      have := hs (k + 1) d τ (by rw [List.getElem?_cons_succ]; exact hk) (by rw [show k0 + (k + 1) = k0 + 1 + k by omega]; exact hI)
      rw [show k0 + (k + 1) + 1 = k0 + 1 + k + 1 by omega] at this
      exact this) h2
    refine ⟨τ', ?_, ?_⟩
    · rw [x_fo1, e1]
      show forB (b τ1) _ = _
      rcases e2 with e2 | e2 <;> rw [e2]
      · exact e3
      · exact e3
    · rw [List.length_cons, show k0 + (ds.length + 1) = k0 + 1 + ds.length by omega]; exact h3
theorem for_inv (I : Env → Prop) (items : List D) (τ : Env) (hs : ∀ d ∈ items, ∀ τ, I τ → ∃ τ1 τ2, g d τ = some τ1 ∧ (b τ1 = .nx τ2 ∨ b τ1 = .ct τ2) ∧ I τ2) (h : I τ) : ∃ τ', forL g b items τ = .nx τ' ∧ I τ' :=
  for_idx (fun _ => I) items 0 τ (fun k d τ hk hI => hs d (List.mem_of_getElem? hk) τ hI) h
/-- two lists, item by item -/
def All2 (P : D → D → Prop) : List D → List D → Prop
  | [], [] => True
  | x :: xs, y :: ys => P x y ∧ All2 P xs ys
  | _, _ => False
theorem All2.length {P : D → D → Prop} : ∀ {xs ys : List D}, All2 P xs ys → xs.length = ys.length
  | [], [], _ => rfl
  | _ :: _, [], h => h.elim
  | [], _ :: _, h => h.elim
  | _ :: _, _ :: _, h => by rw [List.length_cons, List.length_cons, h.2.length]
/-- a comprehension without a test, whose every turn leaves the names as they were -/
theorem lc_all (P : D → D → Prop) (τ : Env) : ∀ (items acc : List D), acc.length + items.length ≤ 1000000 → (∀ d ∈ items, ∃ e τ1 τ2, g d τ = some τ1 ∧ m τ1 = .ok e τ2 ∧ wipeE τ2 own = τ ∧ P d e) → ∃ es, All2 P items es ∧ lcL own g tTrue m items acc τ = .ok (acc ++ es) τ
  | [], acc, _, _ => ⟨[], trivial, by rw [List.append_nil]; rfl⟩
  | d :: ds, acc, hl, h => by
    obtain ⟨e, τ1, τ2, e1, e2, e3, p⟩ := h d List.mem_cons_self
    rw [List.length_cons] at hl
    obtain ⟨es, q, e4⟩ := lc_all P τ ds (acc ++ [e]) (by rw [List.length_append]; simp only [List.length_cons, List.length_nil]; omega) fun d' hd => h d' (List.mem_cons_of_mem _ hd)
    refine ⟨e :: es, ⟨p, q⟩, ?_⟩
    rw [x_lc1, e1, x_lcG, x_tTrue, x_b1, if_pos rfl, e2, x_b1, if_pos (by omega), e3, e4, List.append_assoc]
    rfl
theorem lc_map {α : Type} (f : α → D) (P : D → D → Prop) (hP : ∀ d e, P d e → ∃ x, e = f x) : ∀ {items es : List D}, All2 P items es → ∃ xs : List α, es = List.map f xs
  | [], [], _ => ⟨[], rfl⟩
  | _ :: _, [], h => h.elim
  | [], _ :: _, h => h.elim
  | d :: _, e :: es, ⟨h1, h2⟩ => by
    obtain ⟨x, rfl⟩ := hP d e h1
    obtain ⟨xs, rfl⟩ := lc_map f P hP h2
    exact ⟨x :: xs, rfl⟩
theorem All2.right {P : D → D → Prop} {Q : D → Prop} (hP : ∀ d e, P d e → Q e) : ∀ {items es : List D}, All2 P items es → ∀ e ∈ es, Q e
  | [], [], _ => by simp
  | _ :: _, [], h => h.elim
  | [], _ :: _, h => h.elim
  | d :: _, e :: es, ⟨h1, h2⟩ => by
    intro x hx
    rcases List.mem_cons.mp hx with rfl | hx
    · exact hP _ _ h1
    · exact All2.right hP h2 x hx
end
theorem fz_map {α : Type} {f : α → D} (h : ∀ p, freeze (f p) = f p) : ∀ xs : List α, freezeL (xs.map f) = xs.map f
  | [] => rfl
  | x :: xs => by rw [List.map_cons, x_fL1, h, fz_map h xs]
/-! ### ranges -/
theorem length_rangeD (lo : Int) (n : Nat) : (rangeD lo n).length = n := by simp [rangeD]
theorem rangeD_get {lo : Int} {n k : Nat} {d : D} (h : (rangeD lo n)[k]? = some d) : k < n ∧ d = .int (lo + (k : Nat)) := by
  unfold rangeD at h
  rw [List.getElem?_map] at h
  by_cases z : k < n
  · rw [List.getElem?_range z] at h
    exact ⟨z, by simpa using h.symm⟩
  · rw [List.getElem?_eq_none (by simp; omega)] at h
    cases h
theorem mem_rangeD {lo : Int} {n : Nat} {d : D} (h : d ∈ rangeD lo n) : ∃ k : Nat, k < n ∧ d = .int (lo + (k : Nat)) := by
  obtain ⟨k, hk⟩ := List.mem_iff_getElem?.mp h
  exact ⟨k, rangeD_get hk⟩
section
variable {ma : MA} {g : D → Env → Option Env} {b : MS} {own : List Nat} {t : MT} {m : ME} {τ τ1 τ2 : Env}
theorem x_range {N : Int} {n : Nat} (h : ma τ = .ok [.int N] τ1) (h1 : 0 ≤ N) (h2 : N < 1000000) (e : N.toNat = n) : iR1 ma τ = .ok (rangeD 0 n) τ1 := by
  rw [x_iR1, h, x_b1, x_iR11 (by omega) (by omega), e]
theorem x_for_range {N : Int} {n : Nat} (h : ma τ = .ok [.int N] τ1) (h1 : 0 ≤ N) (h2 : N < 1000000) (e : N.toNat = n) : sFor (iR1 ma) g b τ = forL g b (rangeD 0 n) τ1 := by
  rw [x_for, x_range h h1 h2 e, x_s1]
theorem x_lc_range {N : Int} {n : Nat} (h : ma τ = .ok [.int N] τ1) (h1 : 0 ≤ N) (h2 : N < 1000000) (e : N.toNat = n) : eLc own (iR1 ma) g t m τ = lcE (lcL own g t m (rangeD 0 n) [] (wipeE τ1 own)) := by
  rw [x_lc, x_range h h1 h2 e, x_b1]
theorem x_cat_ok {ea eb : ME} {x y d : D} (h1 : ea τ = .ok x τ1) (h2 : eb τ1 = .ok y τ2) (h3 : catD (freeze x) (freeze y) = some d) : eCat ea eb τ = .ok d τ2 := by
  rw [x_cat, h1, x_b1, h2, x_b1, h3, x_cat1]
theorem x_asg_ok {gg : D → Env → Option Env} {d : D} (h : m τ = .ok d τ1) (k : gg d τ1 = some τ2) : sAsg m gg τ = .nx τ2 := by
  rw [x_asg, h, x_asg1, k, x_asg4]
theorem x_seq_ok {a c : MS} {r : SR} (h : a τ = .nx τ1) (k : c τ1 = r) : sSeq a c τ = r := by
  rw [x_seq, h, x_seq1, k]
theorem cut_map {α β : Type} (f : α → β) (xs : List α) (lo hi : Option Int) : cutL (xs.map f) lo hi = (cutL xs lo hi).map f := by
  unfold cutL
  rw [List.length_map, List.map_take, List.map_drop]
theorem cut_length_le {α : Type} (xs : List α) (lo hi : Option Int) : (cutL xs lo hi).length ≤ xs.length := by
  unfold cutL
  rw [List.length_take, List.length_drop]
  omega
end
theorem vIxL_of {b : Bool} {xs : List D} {i : Int} {d : D} {k : Nat} (e : i = (k : Nat)) (h : xs[k]? = some d) : gIx (.lst b xs) (.int i) = some d := by
  subst e; rw [vIxL, h]
theorem ix_map {α : Type} (f : α → D) (xs : List α) {i : Int} (h0 : 0 ≤ i) (h1 : i < xs.length) : ∃ x ∈ xs, ∀ b, gIx (.lst b (xs.map f)) (.int i) = some (f x) := by
  obtain ⟨k, rfl⟩ : ∃ k : Nat, i = k := ⟨i.toNat, by omega⟩
  have hk : k < xs.length := by omega
  refine ⟨xs[k], List.getElem_mem hk, fun b => ?_⟩
  rw [vIxL, List.getElem?_map, List.getElem?_eq_getElem hk]; rfl
theorem cF_ok {n N : Nat} {b : MS} {ds : List D} {τ0 : Env} {r : SR} (hl : ds.length = n) (hτ : ds.map some ++ List.replicate (N - n) none = τ0) (h : b τ0 = r) : callF n N b ds = callR r := by
  rw [x_cF, if_pos hl, hτ, h]
end Bn

namespace Lw
open PySem PySem.Spec PyProof.Rows L2 Bn
/-! ### the text -/
def topS (i : Nat) : Stmt := PySem.Challenge.pw_boxnarrow_k43_inverse.main.body.getD i (.Pass ⟨0, 0, 0, 0⟩)
abbrev s__law_grid : Stmt := topS 7
theorem sc__law_grid : FnScope ["_law_cell_here"] ["_law_cell_here"] (defScope s__law_grid) := ⟨rfl, rfl, rfl, by decide +kernel, rfl, by decide +kernel, by decide +kernel⟩
abbrev s_without : Stmt := topS 1
theorem sc_without : FnScope ["matrix", "row", "column", "left", "at", "k"] ["matrix", "row", "column"] (defScope s_without) := ⟨rfl, rfl, rfl, by decide +kernel, rfl, by decide +kernel, by decide +kernel⟩
abbrev s_determinant : Stmt := topS 2
theorem sc_determinant : FnScope ["matrix", "total", "sign", "column", "entry"] ["matrix"] (defScope s_determinant) := ⟨rfl, rfl, rfl, by decide +kernel, rfl, by decide +kernel, by decide +kernel⟩
abbrev s_inverse : Stmt := topS 3
theorem sc_inverse : FnScope ["matrix", "grid", "whole", "made", "row", "entries", "column", "part"] ["matrix", "grid"] (defScope s_inverse) := ⟨rfl, rfl, rfl, by decide +kernel, rfl, by decide +kernel, by decide +kernel⟩
abbrev s__law_orders : Stmt := topS 9
theorem sc__law_orders : FnScope ["_law_size", "_law_made", "_law_k", "_law_grown", "_law_order", "_law_sign", "_law_at"] ["_law_size"] (defScope s__law_orders) := ⟨rfl, rfl, rfl, by decide +kernel, rfl, by decide +kernel, by decide +kernel⟩
abbrev s__law_cell : Stmt := topS 5
theorem sc__law_cell : FnScope ["_law_script", "_law_k"] ["_law_script", "_law_k"] (defScope s__law_cell) := ⟨rfl, rfl, rfl, by decide +kernel, rfl, by decide +kernel, by decide +kernel⟩
abbrev s__law_whole : Stmt := topS 6
theorem sc__law_whole : FnScope ["_law_found"] ["_law_found"] (defScope s__law_whole) := ⟨rfl, rfl, rfl, by decide +kernel, rfl, by decide +kernel, by decide +kernel⟩
abbrev s__law_all_orders : Stmt := topS 10
theorem sc__law_all_orders : FnScope ["_law_matrix", "_law_orders_here", "_law_total", "_law_order", "_law_sign", "_law_at"] ["_law_matrix", "_law_orders_here"] (defScope s__law_all_orders) := ⟨rfl, rfl, rfl, by decide +kernel, rfl, by decide +kernel, by decide +kernel⟩
abbrev s__law_entry : Stmt := topS 8
theorem sc__law_entry : FnScope ["_law_cell_here"] ["_law_cell_here"] (defScope s__law_entry) := ⟨rfl, rfl, rfl, by decide +kernel, rfl, by decide +kernel, by decide +kernel⟩
abbrev s__law_floor : Stmt := topS 12
theorem sc__law_floor : FnScope ["_law_found", "_law_top", "_law_bottom"] ["_law_found", "_law_top", "_law_bottom"] (defScope s__law_floor) := ⟨rfl, rfl, rfl, by decide +kernel, rfl, by decide +kernel, by decide +kernel⟩
abbrev s__law_minor : Stmt := topS 11
theorem sc__law_minor : FnScope ["_law_matrix", "_law_row", "_law_column", "_law_left", "_law_at"] ["_law_matrix", "_law_row", "_law_column"] (defScope s__law_minor) := ⟨rfl, rfl, rfl, by decide +kernel, rfl, by decide +kernel, by decide +kernel⟩
abbrev s_law : Stmt := topS 13
theorem sc_law : FnScope ["_law_script", "_law_size", "_law_grid_here", "_law_matrix", "_law_row", "_law_k", "_law_at", "_law_entry_here", "_law_handed", "_law_whole_here", "_law_found", "_law_orders_here", "_law_column", "_law_part"] ["_law_script"] (defScope s_law) := ⟨rfl, rfl, rfl, by decide +kernel, rfl, by decide +kernel, by decide +kernel⟩
/-! ### the functions -/
def m__law_grid : MS := (sSeq (sIf (tZ (z2 gEq (z2 gMod (zVar 0) (zC (.int 3))) (zC (.int 0)))) (sRet (eZ (z2 gAdd (zC (.int 1)) (z2 gMod (z2 gDiv (zVar 0) (zC (.int 3))) (zC (.int 1000000)))))) sNil)
    (sSeq (sIf (tZ (z2 gEq (z2 gMod (zVar 0) (zC (.int 3))) (zC (.int 1)))) (sRet (eZ (z2 gAdd (zC (.int 1)) (z2 gMod (z2 gDiv (zVar 0) (zC (.int 3))) (zC (.int 12)))))) sNil)
    (sRet (eZ (zC (.int 64))))))
def f__law_grid : List D → CR := callF 1 1 m__law_grid
def m_without : MS := (sSeq (sAsg (eLst aNil) (gN 3))
    (sSeq (sFor (iR1 (aCons (eZ (zC' gLen (zaCons (zVar 0) zaNil))) aNil)) (gN 4) (sIf (tZ (z2 gNe (zVar 4) (zVar 1))) (sApp 3 (eLc [5] (iR1 (aCons (eZ (zC' gLen (zaCons (zVar 0) zaNil))) aNil)) (gN 5) (tZ (z2 gNe (zVar 5) (zVar 2))) (eZ (z2 gIx (z2 gIx (zVar 0) (zVar 4)) (zVar 5))))) sNil))
    (sRet (eMv 3))))
def f_without : List D → CR := callF 3 6 m_without
def m_determinant (f_determinant : List D → CR) : MS := (sSeq (sIf (tZ (z2 gEq (zC' gLen (zaCons (zVar 0) zaNil)) (zC (.int 0)))) (sRet (eZ (zC (.int 1)))) sNil)
    (sSeq (sAsg (eZ (zC (.int 0))) (gN 1))
    (sSeq (sAsg (eZ (zC (.int 1))) (gN 2))
    (sSeq (sFor (iR1 (aCons (eZ (zC' gLen (zaCons (zVar 0) zaNil))) aNil)) (gN 3) (sSeq (sAsg (eZ (z2 gIx (z2 gIx (zVar 0) (zC (.int 0))) (zVar 3))) (gN 4))
    (sSeq (sIf (tZ (z2 gNe (zVar 4) (zC (.int 0)))) (sAsg (e2 gAdd (eVar 1) (e2 gMul (eZ (z2 gMul (zVar 2) (zVar 4))) (eCall f_determinant (aCons (eCall f_without (aCons (eVar 0) (aCons (eZ (zC (.int 0))) (aCons (eVar 3) aNil)))) aNil)))) (gN 1)) sNil)
    (sAsg (eZ (z1 gNeg (zVar 2))) (gN 2)))))
    (sRet (eMv 1))))))
def fr_determinant : Nat → List D → CR
  | 0 => fun _ => .bad
  | n + 1 => callF 1 5 (m_determinant (fr_determinant n))
def f_determinant : List D → CR := fr_determinant 6
def m_inverse : MS := (sSeq (sAsg (eCall f_determinant (aCons (eVar 0) aNil)) (gN 2))
    (sSeq (sIf (tZ (z2 gEq (zVar 2) (zC (.int 0)))) (sRet (eZ (zC .non))) sNil)
    (sSeq (sAsg (eLst aNil) (gN 3))
    (sSeq (sFor (iR1 (aCons (eZ (zC' gLen (zaCons (zVar 0) zaNil))) aNil)) (gN 4) (sSeq (sAsg (eLst aNil) (gN 5))
    (sSeq (sFor (iR1 (aCons (eZ (zC' gLen (zaCons (zVar 0) zaNil))) aNil)) (gN 6) (sSeq (sAsg (eCall f_determinant (aCons (eCall f_without (aCons (eVar 0) (aCons (eVar 6) (aCons (eVar 4) aNil)))) aNil)) (gN 7))
    (sSeq (sIf (tZ (z2 gEq (z2 gMod (z2 gAdd (zVar 4) (zVar 6)) (zC (.int 2))) (zC (.int 1)))) (sAsg (eZ (z1 gNeg (zVar 7))) (gN 7)) sNil)
    (sApp 5 (eZ (z2 gDivX (z2 gMul (z2 gMul (zVar 1) (zVar 1)) (zVar 7)) (zVar 2)))))))
    (sApp 3 (eVar 5)))))
    (sRet (eMv 3))))))
def f_inverse : List D → CR := callF 2 8 m_inverse
def m__law_orders : MS := (sSeq (sAsg (eLst (aCons (eTup (aCons (eLst aNil) (aCons (eZ (zC (.int 1))) aNil))) aNil)) (gN 1))
    (sSeq (sFor (iR1 (aCons (eVar 0) aNil)) (gN 2) (sSeq (sAsg (eLst aNil) (gN 3))
    (sSeq (sFor (iL (eVar 1)) (gT 2 (gCons' (gN 4) (gCons' (gN 5) gNil'))) (sFor (iR1 (aCons (eZ (z2 gAdd (zVar 2) (zC (.int 1)))) aNil)) (gN 6) (sApp 3 (eTup (aCons (eCat (eCat (eSlice cutLd (eVar 4) pNone (pSome (eVar 6))) (eLst (aCons (eVar 2) aNil))) (eSlice cutLd (eVar 4) (pSome (eVar 6)) pNone)) (aCons (eZ (z2 gMul (zVar 5) (z2 gSub (zC (.int 1)) (z2 gMul (zC (.int 2)) (z2 gMod (z2 gSub (zVar 2) (zVar 6)) (zC (.int 2))))))) aNil))))))
    (sAsg (eVar 3) (gN 1)))))
    (sRet (eMv 1))))
def f__law_orders : List D → CR := callF 1 7 m__law_orders
def m__law_cell : MS := (sSeq (sIf (tZ (z2 gLt (zVar 1) (zC' gLen (zaCons (zVar 0) zaNil)))) (sRet (eZ (z2 gIx (zVar 0) (zVar 1)))) sNil)
    (sRet (eZ (zC (.int 0)))))
def f__law_cell : List D → CR := callF 2 2 m__law_cell
def m__law_whole : MS := (sRet (eAnd (eZ (zC' gIsi (zaCons (zVar 0) (zaCons (zC (.ty "int")) zaNil)))) (eNot (eZ (zC' gIsi (zaCons (zVar 0) (zaCons (zC (.ty "bool")) zaNil)))))))
def f__law_whole : List D → CR := callF 1 1 m__law_whole
def m__law_all_orders : MS := (sSeq (sAsg (eZ (zC (.int 0))) (gN 2))
    (sSeq (sFor (iL (eVar 1)) (gT 2 (gCons' (gN 3) (gCons' (gN 4) gNil'))) (sSeq (sFor (iR1 (aCons (eZ (zC' gLen (zaCons (zVar 0) zaNil))) aNil)) (gN 5) (sAsg (eZ (z2 gMul (zVar 4) (z2 gIx (z2 gIx (zVar 0) (zVar 5)) (z2 gIx (zVar 3) (zVar 5))))) (gN 4)))
    (sAsg (eZ (z2 gAdd (zVar 2) (zVar 4))) (gN 2))))
    (sRet (eMv 2))))
def f__law_all_orders : List D → CR := callF 2 6 m__law_all_orders
def m__law_entry : MS := (sSeq (sIf (tZ (z2 gEq (z2 gMod (zVar 0) (zC (.int 3))) (zC (.int 0)))) (sRet (eZ (z2 gSub (z2 gMod (z2 gDiv (zVar 0) (zC (.int 3))) (z2 gMul (zC (.int 2)) (z2 gPow (zC (.int 10)) (zC (.int 60))))) (z2 gPow (zC (.int 10)) (zC (.int 60)))))) sNil)
    (sRet (eZ (z2 gSub (z2 gMod (z2 gDiv (zVar 0) (zC (.int 3))) (zC (.int 13))) (zC (.int 6))))))
def f__law_entry : List D → CR := callF 1 1 m__law_entry
def m__law_floor : MS := (sSeq (sIf (tNot (tE (eCall f__law_whole (aCons (eVar 0) aNil)))) (sRet (eZ (zC (.bl false)))) sNil)
    (sSeq (sIf (tZ (z2 gLt (zVar 2) (zC (.int 0)))) (sSeq (sAsg (eZ (z1 gNeg (zVar 1))) (gN 1))
    (sAsg (eZ (z1 gNeg (zVar 2))) (gN 2))) sNil)
    (sRet (eZ (zChain gLe gLt (z2 gMul (zVar 0) (zVar 2)) (zVar 1) (z2 gMul (z2 gAdd (zVar 0) (zC (.int 1))) (zVar 2)))))))
def f__law_floor : List D → CR := callF 3 3 m__law_floor
def m__law_minor : MS := (sSeq (sAsg (eLst aNil) (gN 3))
    (sSeq (sFor (iR1 (aCons (eZ (zC' gLen (zaCons (zVar 0) zaNil))) aNil)) (gN 4) (sIf (tZ (z2 gNe (zVar 4) (zVar 1))) (sApp 3 (eCat (eSlice cutLd (eZ (z2 gIx (zVar 0) (zVar 4))) pNone (pSome (eVar 2))) (eSlice cutLd (eZ (z2 gIx (zVar 0) (zVar 4))) (pSome (eZ (z2 gAdd (zVar 2) (zC (.int 1))))) pNone))) sNil))
    (sRet (eMv 3))))
def f__law_minor : List D → CR := callF 3 5 m__law_minor
def l_law_1 : MS := (sApp 3 (eFz (eLc [5] (iR1 (aCons (eVar 1) aNil)) (gN 5) tTrue (eCall f__law_entry (aCons (eCall f__law_cell (aCons (eVar 0) (aCons (eZ (z2 gAdd (z2 gAdd (zC (.int 3)) (z2 gMul (zC (.int 4)) (zVar 4))) (zVar 5))) aNil))) aNil)))))
def l_law_2 : MS := (sSeq (sAsg (e2 gMul (eCall f__law_all_orders (aCons (eCall f__law_minor (aCons (eVar 3) (aCons (eVar 12) (aCons (eVar 4) aNil)))) (aCons (eVar 11) aNil))) (eZ (z2 gSub (zC (.int 1)) (z2 gMul (zC (.int 2)) (z2 gMod (z2 gAdd (zVar 4) (zVar 12)) (zC (.int 2))))))) (gN 13))
    (sIf (tNot (tE (eCall f__law_floor (aCons (eZ (z2 gIx (z2 gIx (zVar 10) (zVar 4)) (zVar 12))) (aCons (eZ (z2 gMul (z2 gMul (zVar 2) (zVar 2)) (zVar 13))) (aCons (eVar 9) aNil)))))) (sRet (eZ (zC (.bl false)))) sNil))
def l_law_3 : MS := (sSeq (sIf (tOr (tNot (tZ (zC' gIsi (zaCons (z2 gIx (zVar 10) (zVar 4)) (zaCons (zC (.ty "list")) zaNil))))) (tZ (z2 gNe (zC' gLen (zaCons (z2 gIx (zVar 10) (zVar 4)) zaNil)) (zVar 1)))) (sRet (eZ (zC (.bl false)))) sNil)
    (sFor (iR1 (aCons (eVar 1) aNil)) (gN 12) l_law_2))
def u_law_13 : MS := (sRet (eZ (zC (.bl true))))
def u_law_12 : MS := (sSeq (sFor (iR1 (aCons (eVar 1) aNil)) (gN 4) l_law_3) u_law_13)
def u_law_11 : MS := (sSeq (sAsg (eCall f__law_orders (aCons (eZ (z2 gSub (zVar 1) (zC (.int 1)))) aNil)) (gN 11)) u_law_12)
def u_law_10 : MS := (sSeq (sIf (tOr (tNot (tZ (zC' gIsi (zaCons (zVar 10) (zaCons (zC (.ty "list")) zaNil))))) (tZ (z2 gNe (zC' gLen (zaCons (zVar 10) zaNil)) (zVar 1)))) (sRet (eZ (zC (.bl false)))) sNil) u_law_11)
def u_law_9 : MS := (sSeq (sIf (tZ (z2 gEq (zVar 9) (zC (.int 0)))) (sRet (eZ (z2 gIsN (zVar 10) (zC .non)))) sNil) u_law_10)
def u_law_8 : MS := (sSeq (sIf (tOr (tNot (tE (eCall f__law_whole (aCons (eVar 9) aNil)))) (tOr (tE (e2 gNe (eVar 9) (eCall f__law_all_orders (aCons (eVar 3) (aCons (eCall f__law_orders (aCons (eVar 1) aNil)) aNil))))) (tZ (z2 gNe (zVar 8) (zVar 3))))) (sRet (eZ (zC (.bl false)))) sNil) u_law_9)
def u_law_7 : MS := (sSeq (sAsg (eCall f_inverse (aCons (eVar 8) (aCons (eVar 2) aNil))) (gN 10)) u_law_8)
def u_law_6 : MS := (sSeq (sAsg (eCall f_determinant (aCons (eVar 8) aNil)) (gN 9)) u_law_7)
def u_law_5 : MS := (sSeq (sAsg (eLc [4] (iL (eVar 3)) (gN 4) tTrue (eLstOf (aCons (eVar 4) aNil))) (gN 8)) u_law_6)
def u_law_4 : MS := (sSeq (sIf (tAnd (tE (e2 gEq (e2 gMod (eCall f__law_cell (aCons (eVar 0) (aCons (eZ (zC (.int 2))) aNil))) (eZ (zC (.int 4)))) (eZ (zC (.int 1))))) (tZ (z2 gGt (zVar 1) (zC (.int 1))))) (sSeq (sAsg (e2 gMod (e2 gDiv (eCall f__law_cell (aCons (eVar 0) (aCons (eZ (zC (.int 2))) aNil))) (eZ (zC (.int 4)))) (eVar 1)) (gN 6))
    (sSetIx 3 (zVar 6) (eLc [7] (iL (eZ (z2 gIx (zVar 3) (z2 gMod (z2 gAdd (zVar 6) (zC (.int 1))) (zVar 1))))) (gN 7) tTrue (eZ (z2 gMul (zC (.int 3)) (zVar 7)))))) sNil) u_law_5)
def u_law_3 : MS := (sSeq (sFor (iR1 (aCons (eVar 1) aNil)) (gN 4) l_law_1) u_law_4)
def u_law_2 : MS := (sSeq (sAsg (eLst aNil) (gN 3)) u_law_3)
def u_law_1 : MS := (sSeq (sAsg (eCall f__law_grid (aCons (eCall f__law_cell (aCons (eVar 0) (aCons (eZ (zC (.int 1))) aNil))) aNil)) (gN 2)) u_law_2)
def m_law : MS := (sSeq (sAsg (e2 gAdd (eZ (zC (.int 1))) (e2 gMod (eCall f__law_cell (aCons (eVar 0) (aCons (eZ (zC (.int 0))) aNil))) (eZ (zC (.int 4))))) (gN 1)) u_law_1)
def f_law : List D → CR := callF 1 14 m_law
end Lw

namespace Lw
open Bn
local macro_rules
  | `(tactic| simp_arith only [$ls,*]) => `(tactic| simp (disch := decide) only [x_seq, x_seq1, x_seq2, x_seq3, x_seq4, x_seq5, x_seq6, x_nil, x_if, x_if1, x_if2, x_if3, x_ret, x_ret1, x_ret2, x_ret3, x_retN, x_asg, x_asg1, x_asg2, x_asg3, x_asg4, x_asg5, x_gN, x_drop, x_drop1, x_drop2, x_bk, x_ct, x_raise, x_tZ, x_tZ1, x_tZ2, x_tE, x_tE1, x_tE2, x_tE3, x_tAnd, x_tAnd1, x_tAnd2, x_tAnd3, x_tOr, x_tOr1, x_tOr2, x_tOr3, x_tNot, x_tNot1, x_tNot2, x_tNot3, x_tTrue, x_z2, x_z21, x_z1, x_z11, x_zC, x_zC1, x_za, x_za1, x_za0, x_zV, x_zK, x_ch, x_ch1, x_ch2, x_eZ, x_eZ1, x_eZ2, x_eV, x_eV1, x_eM, x_eM1, x_b1, x_b2, x_b3, x_s1, x_s2, x_s3, x_oO, x_oO2, x_e2, x_e1, x_eC, x_aN, x_aC, x_tup, x_lst, x_call, x_oC1, x_oC2, x_call0, x_call01, x_eAnd, x_eAnd1, x_eOr, x_eOr1, x_eNot, x_eNot1, x_eIf, x_eIf1, x_fz_int, x_fr_int, x_fz_bl, x_fr_bl, x_fz_str, x_fr_str, x_fz_ty, x_fr_ty, x_fz_tup, x_fr_tup, x_fz_cst, x_fr_cst, x_fz_lst_false, x_fr_lst_false, x_fz_non, x_fr_non, x_fz_lt, x_fr_lt, x_fL0, x_fL1, x_cF, x_cR1, x_cR2, x_cR3, x_iL, x_iL1, x_iT, x_iT1, x_iS, x_iS1, x_iR1, x_iR11, x_iR2, x_iR21, x_iE, x_iE1, x_iV, x_iV1, x_iZ, x_iZ1, x_for, x_fo0, x_fo1, x_fo2, x_fo3, x_fo4, x_fo5, x_fo6, x_fo7, x_gT, x_gC, x_gC0, x_try, x_try1, x_try2, x_try3, x_try4, x_try5, x_nx1, x_nx2, x_try6, x_try7, x_nx3, x_nx4, x_app, x_app1, x_app2, x_lc, x_lcE, x_lc0, x_lc1, x_lcG, x_w0, x_w1, vMinL4, vMaxL4, vAll3, vAny3, vAll4, vAny4, x_wh1, x_wh2, x_wh0, x_abs, vI_ii, vI_ib, vI_it, vI_il, vI_is, vI_bb, vI_bi, vI_tt, vI_tl, vI_ti, vI_ll, vI_lt, vI_ss, vEqB, vNeB, x_ta, x_ta1, x_ta2, x_ta3, x_ta4, x_ta5, x_is, nc_0, nc_1, nc_2, nc_3, nc_4, nc_5, nc_6, nc_7, nc_8, nc_9, nc_10, nc_11, vMax2, vMin2, vIsN0, vIsN1, vNotN0, vNotN1, vIsN2, vNotN2, x_lo, x_lo1, x_lo2, vAll2, vAny2, x_sl, x_sl1, x_sl2, x_pn, x_ps, x_ps1, x_cutL, x_cutC, vEqS, vNeS, x_fz_obj, x_fr_obj, x_make, x_meth, x_meth2, x_meth3, x_isO, x_isO1, x_cat, x_cat1, x_methZ, x_methZ2, x_methZ3, x_callZ, x_callZ1, x_lend1, x_lend2, x_cl_int, x_cl_bl, x_cl_str, x_cl_non, x_cl_tup, x_cl0, x_cl1, x_cl_lst, x_setIx, x_setIx1, x_setIx2, x_callI, x_callI1, x_callI2, x_callI3, x_take0, x_take1, x_take2, x_put0, x_put1, x_cFI, x_cRI1, x_cRI2, x_outR, x_outR1, x_out1, x_out2, x_par, x_par1, x_sort, x_sort1, x_sort2, x_io2, x_io4, vIsB, x_pop, x_lr, x_lr1, x_clr, x_clr1, x_clrE, x_clrE1, x_pop1, x_pop2, x_ins, x_ins1, x_ins2, x_sk, x_sk1, x_sk2, x_sk3, x_ck, x_ck1, x_lk, x_lk1, x_fzE, vInt1, vInt2, x_tupO, x_tupO1, x_tupO2, List.all_cons, List.all_nil, Option.isSome_some, Option.map_some, List.getD_cons_zero, List.getD_cons_succ, List.set_cons_zero, List.set_cons_succ, List.map_cons, List.map_nil, List.replicate_zero, List.replicate_succ, List.length_cons, List.length_nil, List.cons_append, List.nil_append, Option.bind_some, if_true, if_false, Bool.false_eq_true, Nat.reduceSub, Nat.reduceAdd, Nat.reduceLeDiff, Nat.reduceLT, vAdd, vSub, vLt, vLe, vGt, vGe, vNeg, vEq, vNe, vEq2, vNe2, vMod, vDiv, vMul, vPow, Int.reduceToNat, vIx0, vIx1, vLenT, vLenC, vLenL, reduceIte, decide_true, decide_false, Bool.not_true, Bool.not_false, beq_self_eq_true, Bool.and_true, Bool.true_and, Bool.and_self, Bool.and_false, Bool.false_and, $ls,*])
local macro_rules
  | `(tactic| simp_arith [$ls,*]) => `(tactic| simp only [x_seq, x_seq1, x_seq2, x_seq3, x_seq4, x_seq5, x_seq6, x_nil, x_if, x_if1, x_if2, x_if3, x_ret, x_ret1, x_ret2, x_ret3, x_retN, x_asg, x_asg1, x_asg2, x_asg3, x_asg4, x_asg5, x_gN, x_drop, x_drop1, x_drop2, x_bk, x_ct, x_raise, x_tZ, x_tZ1, x_tZ2, x_tE, x_tE1, x_tE2, x_tE3, x_tAnd, x_tAnd1, x_tAnd2, x_tAnd3, x_tOr, x_tOr1, x_tOr2, x_tOr3, x_tNot, x_tNot1, x_tNot2, x_tNot3, x_tTrue, x_z2, x_z21, x_z1, x_z11, x_zC, x_zC1, x_za, x_za1, x_za0, x_zV, x_zK, x_ch, x_ch1, x_ch2, x_eZ, x_eZ1, x_eZ2, x_eV, x_eV1, x_eM, x_eM1, x_b1, x_b2, x_b3, x_s1, x_s2, x_s3, x_oO, x_oO2, x_e2, x_e1, x_eC, x_aN, x_aC, x_tup, x_lst, x_call, x_oC1, x_oC2, x_call0, x_call01, x_eAnd, x_eAnd1, x_eOr, x_eOr1, x_eNot, x_eNot1, x_eIf, x_eIf1, x_fz_int, x_fr_int, x_fz_bl, x_fr_bl, x_fz_str, x_fr_str, x_fz_ty, x_fr_ty, x_fz_tup, x_fr_tup, x_fz_cst, x_fr_cst, x_fz_lst_false, x_fr_lst_false, x_fz_non, x_fr_non, x_fz_lt, x_fr_lt, x_fL0, x_fL1, x_cF, x_cR1, x_cR2, x_cR3, x_iL, x_iL1, x_iT, x_iT1, x_iS, x_iS1, x_iR1, x_iR11, x_iR2, x_iR21, x_iE, x_iE1, x_iV, x_iV1, x_iZ, x_iZ1, x_for, x_fo0, x_fo1, x_fo2, x_fo3, x_fo4, x_fo5, x_fo6, x_fo7, x_gT, x_gC, x_gC0, x_try, x_try1, x_try2, x_try3, x_try4, x_try5, x_nx1, x_nx2, x_try6, x_try7, x_nx3, x_nx4, x_app, x_app1, x_app2, x_lc, x_lcE, x_lc0, x_lc1, x_lcG, x_w0, x_w1, vMinL4, vMaxL4, vAll3, vAny3, vAll4, vAny4, x_wh1, x_wh2, x_wh0, x_abs, vI_ii, vI_ib, vI_it, vI_il, vI_is, vI_bb, vI_bi, vI_tt, vI_tl, vI_ti, vI_ll, vI_lt, vI_ss, vEqB, vNeB, x_ta, x_ta1, x_ta2, x_ta3, x_ta4, x_ta5, x_is, nc_0, nc_1, nc_2, nc_3, nc_4, nc_5, nc_6, nc_7, nc_8, nc_9, nc_10, nc_11, vMax2, vMin2, vIsN0, vIsN1, vNotN0, vNotN1, vIsN2, vNotN2, x_lo, x_lo1, x_lo2, vAll2, vAny2, x_sl, x_sl1, x_sl2, x_pn, x_ps, x_ps1, x_cutL, x_cutC, vEqS, vNeS, x_fz_obj, x_fr_obj, x_make, x_meth, x_meth2, x_meth3, x_isO, x_isO1, x_cat, x_cat1, x_methZ, x_methZ2, x_methZ3, x_callZ, x_callZ1, x_lend1, x_lend2, x_cl_int, x_cl_bl, x_cl_str, x_cl_non, x_cl_tup, x_cl0, x_cl1, x_cl_lst, x_setIx, x_setIx1, x_setIx2, x_callI, x_callI1, x_callI2, x_callI3, x_take0, x_take1, x_take2, x_put0, x_put1, x_cFI, x_cRI1, x_cRI2, x_outR, x_outR1, x_out1, x_out2, x_par, x_par1, x_sort, x_sort1, x_sort2, x_io2, x_io4, vIsB, x_pop, x_lr, x_lr1, x_clr, x_clr1, x_clrE, x_clrE1, x_pop1, x_pop2, x_ins, x_ins1, x_ins2, x_sk, x_sk1, x_sk2, x_sk3, x_ck, x_ck1, x_lk, x_lk1, x_fzE, vInt1, vInt2, x_tupO, x_tupO1, x_tupO2, List.all_cons, List.all_nil, Option.isSome_some, Option.map_some, List.getD_cons_zero, List.getD_cons_succ, List.set_cons_zero, List.set_cons_succ, List.map_cons, List.map_nil, List.replicate_zero, List.replicate_succ, List.length_cons, List.length_nil, List.cons_append, List.nil_append, Option.bind_some, if_true, if_false, Bool.false_eq_true, Nat.reduceSub, Nat.reduceAdd, Nat.reduceLeDiff, Nat.reduceLT, vAdd, vSub, vLt, vLe, vGt, vGe, vNeg, vEq, vNe, vEq2, vNe2, vMod, vDiv, vMul, vPow, Int.reduceToNat, vIx0, vIx1, vLenT, vLenC, vLenL, reduceIte, decide_true, decide_false, Bool.not_true, Bool.not_false, beq_self_eq_true, Bool.and_true, Bool.true_and, Bool.and_self, Bool.and_false, Bool.false_and, $ls,*])
theorem rangeD_map (n : Nat) : rangeD 0 n = (List.range n).map fun (k : Nat) => D.int (k : Int) := by
  unfold rangeD
  exact List.map_congr_left fun k _ => by simp
theorem lc_pick {own : List Nat} {g : D → Bn.Env → Option Bn.Env} {t : MT} {m : ME} (τ : Bn.Env) (p : Nat → Bool) (f : Nat → D) : ∀ (items : List Nat) (acc : List D), acc.length + items.length ≤ 1000000 → (∀ k ∈ items, ∃ τ1 τ2, g (.int (k : Nat)) τ = some τ1 ∧ t τ1 = .ok (p k) τ2 ∧ wipeE τ2 own = τ ∧ (p k = true → ∃ τ3, m τ2 = .ok (f k) τ3 ∧ wipeE τ3 own = τ)) → lcL own g t m (items.map fun (k : Nat) => D.int (k : Int)) acc τ = .ok (acc ++ (items.filter p).map f) τ
  | [], acc, _, _ => by rw [List.map_nil, x_lc0, List.filter_nil, List.map_nil, List.append_nil]
  | k :: ks, acc, hl, h => by
    obtain ⟨τ1, τ2, e1, e2, e3, e4⟩ := h k List.mem_cons_self
    rw [List.length_cons] at hl
    rw [List.map_cons, x_lc1, e1, x_lcG, e2, x_b1]
    cases hp : p k with
    | true =>
      obtain ⟨τ3, e5, e6⟩ := e4 hp
      rw [if_pos rfl, e5, x_b1, if_pos (by omega), e6, lc_pick τ p f ks (acc ++ [f k]) (by rw [List.length_append, List.length_cons, List.length_nil]; omega) fun k' hk => h k' (List.mem_cons_of_mem _ hk), List.filter_cons_of_pos hp, List.map_cons, List.append_assoc]
      rfl
    | false =>
      rw [if_neg (by simp), e3, lc_pick τ p f ks acc (by omega) fun k' hk => h k' (List.mem_cons_of_mem _ hk), List.filter_cons_of_neg (by simp [hp])]
def mrow (n : Nat) (r : Nat → Int) : List D := (List.range n).map fun k => D.int (r k)
def matF (b : Bool) (n : Nat) (A : Nat → Nat → Int) : D := .lst b ((List.range n).map fun a => .lst b (mrow n (A a)))
def sk (i a : Nat) : Nat := if a < i then a else a + 1
def mino (A : Nat → Nat → Int) (i j : Nat) : Nat → Nat → Int := fun a k => A (sk i a) (sk j k)
theorem filter_sk : ∀ n < 4, ∀ i < n + 1, ((List.range (n + 1)).filter fun k => !(k == i)) = (List.range n).map (sk i) := by decide
theorem ix_matF (b : Bool) {n : Nat} (A : Nat → Nat → Int) {i : Int} {k : Nat} (e : i = (k : Nat)) (h : k < n) : gIx (matF b n A) (.int i) = some (.lst b (mrow n (A k))) := by
  unfold matF
  exact vIxL_of e (by rw [List.getElem?_map, List.getElem?_range h]; rfl)
theorem ix_mrow (b : Bool) {n : Nat} (r : Nat → Int) {i : Int} {k : Nat} (e : i = (k : Nat)) (h : k < n) : gIx (.lst b (mrow n r)) (.int i) = some (.int (r k)) := by
  unfold mrow
  exact vIxL_of e (by rw [List.getElem?_map, List.getElem?_range h]; rfl)
theorem len_matF (b : Bool) (n : Nat) (A : Nat → Nat → Int) : gLen [matF b n A] = some (.int (n : Nat)) := by
  show some (D.int _) = _
  rw [List.length_map, List.length_range]
theorem fz_mrow (n : Nat) (r : Nat → Int) : freezeL (mrow n r) = mrow n r := fz_map (fun _ => rfl) _
theorem fz_matL (b : Bool) (n : Nat) (A : Nat → Nat → Int) : ∀ l : List Nat, freezeL (l.map fun a => D.lst b (mrow n (A a))) = l.map fun a => D.lst false (mrow n (A a))
  | [] => rfl
  | a :: l => by
    rw [List.map_cons, x_fL1, fz_matL b n A l]
    cases b with
    | true => rw [x_fr_lt, fz_mrow]; rfl
    | false => rfl
theorem fr_matF (b : Bool) (n : Nat) (A : Nat → Nat → Int) : freeze (matF b n A) = matF false n A := by
  cases b with
  | true => show D.lst false (freezeL _) = _; rw [fz_matL]; rfl
  | false => rfl
theorem isfz_matF (n : Nat) (A : Nat → Nat → Int) : isFz (matF false n A) = true := rfl
theorem nat_ne (a b : Nat) : (!(((a : Nat) : Int) == ((b : Nat) : Int))) = (!(a == b)) := by
  by_cases h : a = b
  · subst h; simp
  · have h1 : (a == b) = false := by simp [h]
    have h2 : (((a : Nat) : Int) == ((b : Nat) : Int)) = false := by simp; omega
    rw [h1, h2]
def wLC : ME := eLc [5] (iR1 (aCons (eZ (zC' gLen (zaCons (zVar 0) zaNil))) aNil)) (gN 5) (tZ (z2 gNe (zVar 5) (zVar 2))) (eZ (z2 gIx (z2 gIx (zVar 0) (zVar 4)) (zVar 5)))
theorem wo_row {M vi vj va : D} {R0 : D} {N : Int} {n : Nat} (hL : gLen [M] = some (.int N)) (h0 : 0 ≤ N) (h1 : N < 1000000) (hN : N.toNat = n) (hn : n ≤ 1000) (p : Nat → Bool) (f : Nat → Int) (hp : ∀ k, k < n → gNe (.int (k : Nat)) vj = some (.bl (p k))) (e1 : gIx M va = some R0) (e2 : ∀ k, k < n → gIx R0 (.int (k : Nat)) = some (.int (f k))) (acc : D) :
    wLC [some M, some vi, some vj, some acc, some va, none] = .ok (.lst true (((List.range n).filter p).map fun k => D.int (f k))) [some M, some vi, some vj, some acc, some va, none] := by
  have hr : iR1 (aCons (eZ (zC' gLen (zaCons (zVar 0) zaNil))) aNil) [some M, some vi, some vj, some acc, some va, none] = .ok (rangeD 0 n) [some M, some vi, some vj, some acc, some va, none] :=
    x_range (N := N) (by simp_arith [hL]) h0 h1 hN
  unfold wLC
  rw [x_lc, hr, x_b1, rangeD_map, x_w1, x_w0]
  show lcE (lcL _ _ _ _ _ _ [some M, some vi, some vj, some acc, some va, none]) = _
  rw [lc_pick _ p (fun k => D.int (f k)) (List.range n) [] (by rw [List.length_nil, List.length_range]; omega) fun k hk => ?_]
  · rfl
  · have hk' := List.mem_range.mp hk
    have e := hp k hk'
    have e3 := e2 k hk'
    generalize ((k : Nat) : Int) = k' at *
    refine ⟨[some M, some vi, some vj, some acc, some va, some (.int k')], [some M, some vi, some vj, some acc, some va, some (.int k')], rfl, ?_, rfl, fun _ => ⟨[some M, some vi, some vj, some acc, some va, some (.int k')], ?_, rfl⟩⟩
    · simp_arith [e]
    · simp_arith [e1, e3]
def wB : MS := sIf (tZ (z2 gNe (zVar 4) (zVar 1))) (sApp 3 wLC) sNil
theorem wo_step {M vi vj va Ra : D} {acc : List D} {b : Bool} (e : gNe va vi = some (.bl b)) (hro : wLC [some M, some vi, some vj, some (.lst true acc), some va, none] = .ok Ra [some M, some vi, some vj, some (.lst true acc), some va, none]) (hl : acc.length < 1000000) :
    wB [some M, some vi, some vj, some (.lst true acc), some va, none] = .nx [some M, some vi, some vj, some (.lst true (if b then acc ++ [Ra] else acc)), some va, none] := by
  unfold wB
  generalize wLC = mm at *
  cases b with
  | true => simp_arith [e, hro, hl]
  | false => simp_arith [e]
theorem vNeN (a b : Nat) : gNe (.int (a : Nat)) (.int (b : Nat)) = some (.bl (!(a == b))) := by
  have e := nat_ne a b
  generalize ((a : Nat) : Int) = a' at *
  generalize ((b : Nat) : Int) = b' at *
  rw [vNe, e]
theorem wo_run {M vi vj : D} {N : Int} {n : Nat} (hL : gLen [M] = some (.int N)) (h0 : 0 ≤ N) (h1 : N < 1000000) (hN : N.toNat = n) (hn : n ≤ 1000) (p q : Nat → Bool) (f : Nat → Nat → Int) (R : Nat → D) (hq : ∀ k, k < n → gNe (.int (k : Nat)) vi = some (.bl (q k))) (hp : ∀ k, k < n → gNe (.int (k : Nat)) vj = some (.bl (p k)))
    (e1 : ∀ a, a < n → gIx M (.int (a : Nat)) = some (R a)) (e2 : ∀ a, a < n → ∀ k, k < n → gIx (R a) (.int (k : Nat)) = some (.int (f a k))) :
    f_without [M, vi, vj] = .ok (.lst true (((List.range n).filter q).map fun a => .lst true (((List.range n).filter p).map fun k => D.int (f a k)))) := by
  obtain ⟨τ', e, x, rfl⟩ := for_idx (g := gN 4) (b := wB) (fun k τ => ∃ x, τ = [some M, some vi, some vj, some (.lst true (((List.range k).filter q).map fun a => .lst true (((List.range n).filter p).map fun k => D.int (f a k)))), x, none]) (rangeD 0 n) 0 [some M, some vi, some vj, some (.lst true []), none, none] (fun k d τ hk hI' => by
      obtain ⟨x, rfl⟩ := hI'
      obtain ⟨h2, rfl⟩ := rangeD_get hk
      rw [Nat.zero_add] at *
      rw [Int.zero_add]
      have hlen : (((List.range k).filter q).map fun a => D.lst true (((List.range n).filter p).map fun k => D.int (f a k))).length < 1000000 := by
        rw [List.length_map]
        have := List.length_filter_le q (List.range k)
        rw [List.length_range] at this; omega
      have hro := fun acc => wo_row (vi := vi) hL h0 h1 hN hn p (f k) hp (e1 k h2) (e2 k h2) acc
      have stp := wo_step (hq k h2) (hro _) hlen
      refine ⟨_, _, rfl, .inl stp, some (.int (k : Nat)), ?_⟩
      rw [List.range_succ, List.filter_append, List.map_append]
      cases hp : q k with
      | true =>
        rw [List.filter_cons_of_pos (by simpa using hp), List.filter_nil, List.map_cons, List.map_nil]
        rfl
      | false =>
        rw [List.filter_cons_of_neg (by simpa using hp), List.filter_nil, List.map_nil, List.append_nil]
        rfl) ⟨none, rfl⟩
  rw [Nat.zero_add, length_rangeD] at e
  generalize D.lst true (((List.range n).filter q).map fun a => D.lst true (((List.range n).filter p).map fun k => D.int (f a k))) = M3 at *
  have e0 : sFor (iR1 (aCons (eZ (zC' gLen (zaCons (zVar 0) zaNil))) aNil)) (gN 4) wB [some M, some vi, some vj, some (.lst true []), none, none] = .nx [some M, some vi, some vj, some M3, x, none] := by
    rw [x_for_range (N := N) (n := n) (τ1 := [some M, some vi, some vj, some (.lst true []), none, none]) (by simp_arith [hL]) h0 h1 hN]
    exact e
  exact (cF_ok (b := m_without) (n := 3) (N := 6) (τ0 := [some M, some vi, some vj, none, none, none]) rfl rfl (x_seq_ok (τ1 := [some M, some vi, some vj, some (.lst true []), none, none]) rfl (x_seq_ok e0 rfl))).trans rfl
theorem wo_ok (A : Nat → Nat → Int) {n i j : Nat} (hn : n ≤ 3) (hi : i ≤ n) (hj : j ≤ n) : f_without [matF false (n + 1) A, .int (i : Nat), .int (j : Nat)] = .ok (matF true n (mino A i j)) := by
  rw [wo_run (len_matF false (n + 1) A) (by omega) (by omega) (n := n + 1) (by omega) (by omega) (fun k => !(k == j)) (fun k => !(k == i)) A (fun a => .lst false (mrow (n + 1) (A a))) (fun k _ => vNeN k i) (fun k _ => vNeN k j) (fun a h => ix_matF false A rfl h) (fun a _ k h => ix_mrow false (A a) rfl h),
    filter_sk n (by omega) i (by omega), filter_sk n (by omega) j (by omega), List.map_map]
  show CR.ok (D.lst true _) = CR.ok (D.lst true _)
  congr 2
  refine List.map_congr_left fun a _ => ?_
  show D.lst true (((List.range n).map (sk j)).map fun k => D.int (A (sk i a) k)) = D.lst true (mrow n _)
  rw [List.map_map]
  rfl
/-! determinants -/
def sgn : Nat → Int | 0 => 1 | n + 1 => -(sgn n)
def psum (f : Nat → Int) : Nat → Int | 0 => 0 | c + 1 => psum f c + f c
def detF : Nat → (Nat → Nat → Int) → Int
  | 0, _ => 1
  | n + 1, A => psum (fun c => sgn c * A 0 c * detF n (mino A 0 c)) (n + 1)
theorem sgn_abs : ∀ n, (sgn n).natAbs = 1
  | 0 => rfl
  | n + 1 => by rw [sgn, Int.natAbs_neg, sgn_abs n]
theorem psum_abs (f : Nat → Int) (B : Nat) (h : ∀ k, (f k).natAbs ≤ B) : ∀ c, (psum f c).natAbs ≤ c * B
  | 0 => by simp [psum]
  | c + 1 => by
    have h1 := psum_abs f B h c
    have h2 := h c
    rw [psum, Nat.succ_mul]
    have := Int.natAbs_add_le (psum f c) (f c)
    omega
theorem detF_abs {b : Nat} : ∀ n, n ≤ 4 → ∀ A : Nat → Nat → Int, (∀ i j, (A i j).natAbs ≤ 2 ^ b) → (detF n A).natAbs ≤ 2 ^ (n * (b + 2))
  | 0, _, _, _ => by simp [detF]
  | n + 1, hn, A, hA => by
    have ih : ∀ c, (detF n (mino A 0 c)).natAbs ≤ 2 ^ (n * (b + 2)) := fun c => detF_abs n (by omega) _ fun i j => hA _ _
    have h := psum_abs (fun c => sgn c * A 0 c * detF n (mino A 0 c)) (2 ^ b * 2 ^ (n * (b + 2))) (fun c => by
      rw [Int.natAbs_mul, Int.natAbs_mul, sgn_abs, Nat.one_mul]
      exact Nat.mul_le_mul (hA 0 c) (ih c)) (n + 1)
    rw [detF]
    refine Nat.le_trans h ?_
    rw [show (n + 1) * (b + 2) = 2 + (b + n * (b + 2)) by rw [Nat.succ_mul]; omega, Nat.pow_add, Nat.pow_add 2 b]
    exact Nat.mul_le_mul_right _ (by show n + 1 ≤ 4; omega)
theorem log_of_le {x : Int} {a m : Nat} (h : x.natAbs ≤ 2 ^ a) (hm : a + 1 < m) : x.natAbs.log2 < m := by
  by_cases z : x.natAbs = 0
  · rw [z, Nat.log2_zero]; omega
  · have := (Nat.log2_lt z).mpr (Nat.lt_of_le_of_lt h (Nat.pow_lt_pow_right (by decide) (show a < a + 1 by omega)))
    omega
theorem mulLe {x y : Int} {a b : Nat} (h1 : x.natAbs ≤ 2 ^ a) (h2 : y.natAbs ≤ 2 ^ b) (h : a + b + 4 < 1000000) : L2.CMulW x y := by
  have k1 := log_of_le h1 (m := a + 2) (by omega)
  have k2 := log_of_le h2 (m := b + 2) (by omega)
  unfold L2.CMulW; omega
theorem natAbs_neg_mul (x y : Int) : (x * y).natAbs = x.natAbs * y.natAbs := Int.natAbs_mul x y
def dB (fd : List D → CR) : MS := (sSeq (sAsg (eZ (z2 gIx (z2 gIx (zVar 0) (zC (.int 0))) (zVar 3))) (gN 4))
    (sSeq (sIf (tZ (z2 gNe (zVar 4) (zC (.int 0)))) (sAsg (e2 gAdd (eVar 1) (e2 gMul (eZ (z2 gMul (zVar 2) (zVar 4))) (eCall fd (aCons (eCall f_without (aCons (eVar 0) (aCons (eZ (zC (.int 0))) (aCons (eVar 3) aNil)))) aNil)))) (gN 1)) sNil)
    (sAsg (eZ (z1 gNeg (zVar 2))) (gN 2))))
theorem det_gen {fd fw : List D → CR} {M M1 M2 R0 : D} {T sg c' a0 dt : Int} (hw : f_without = fw) (z0 : isFz M = true) (z1 : freeze M = M) (e1 : gIx M (.int 0) = some R0) (e2 : gIx R0 (.int c') = some (.int a0)) (e3 : fw [M, .int 0, .int c'] = .ok M1) (e4 : freeze M1 = M2) (hf : fd [M2] = .ok (.int dt)) (v1 : gMul (.int sg) (.int a0) = some (.int (sg * a0))) (v2 : gMul (.int (sg * a0)) (.int dt) = some (.int (sg * a0 * dt))) (y : Option D) :
    dB fd [some M, some (.int T), some (.int sg), some (.int c'), y] = .nx [some M, some (.int (T + sg * a0 * dt)), some (.int (-sg)), some (.int c'), some (.int a0)] := by
  unfold dB
  rw [hw]
  clear hw
  cases h0 : (a0 == 0) with
  | true =>
    have h0' : (!(a0 == 0)) = false := by rw [h0]; rfl
    have : a0 = 0 := by simpa using h0
    subst this
    rw [Int.mul_zero, Int.zero_mul, Int.add_zero]
    simp_arith [e1, e2, h0']
  | false =>
    have h0' : (!(a0 == 0)) = true := by rw [h0]; rfl
    simp_arith [e1, e2, h0', e3, e4, hf, v1, v2, z0, z1]
theorem det_step {fd : List D → CR} (A : Nat → Nat → Int) {n c b : Nat} (hn : n ≤ 3) (hc : c ≤ n) (hb : b ≤ 100000) (hA : ∀ i j, (A i j).natAbs ≤ 2 ^ b) (hf : fd [matF false n (mino A 0 c)] = .ok (.int (detF n (mino A 0 c)))) (T : Int) (y : Option D) :
    dB fd [some (matF false (n + 1) A), some (.int T), some (.int (sgn c)), some (.int (c : Nat)), y] =
    .nx [some (matF false (n + 1) A), some (.int (T + sgn c * A 0 c * detF n (mino A 0 c))), some (.int (sgn (c + 1))), some (.int (c : Nat)), some (.int (A 0 c))] := by
  have s1 := sgn_abs c
  have m1 : L2.CMulW (sgn c) (A 0 c) := mulLe (a := 0) (b := b) (by omega) (hA 0 c) (by omega)
  have d1 := detF_abs (b := b) n (by omega) (mino A 0 c) fun i j => hA _ _
  have m2 : L2.CMulW (sgn c * A 0 c) (detF n (mino A 0 c)) := mulLe (a := b) (b := n * (b + 2)) (by rw [Int.natAbs_mul, s1, Nat.one_mul]; exact hA 0 c) d1 (by
    have : n * (b + 2) ≤ 3 * (b + 2) := Nat.mul_le_mul_right _ hn
    omega)
  exact det_gen rfl (isfz_matF (n + 1) A) (fr_matF false (n + 1) A) (ix_matF false A (k := 0) rfl (by omega)) (ix_mrow false (A 0) rfl (by omega)) (wo_ok A (i := 0) hn (by omega) hc) (fr_matF true n (mino A 0 c)) hf (vMul m1) (vMul m2) y
theorem det_ok {b : Nat} (hb : b ≤ 100000) : ∀ (n N : Nat), n ≤ 4 → n < N → ∀ A : Nat → Nat → Int, (∀ i j, (A i j).natAbs ≤ 2 ^ b) → fr_determinant N [matF false n A] = .ok (.int (detF n A))
  | n, 0, _, h, _, _ => absurd h (by omega)
  | 0, N + 1, _, _, A, _ => rfl
  | n + 1, N + 1, hn, hN, A, hA => by
    have ih : ∀ c, fr_determinant N [matF false n (mino A 0 c)] = .ok (.int (detF n (mino A 0 c))) := fun c => det_ok hb n N (by omega) (by omega) _ fun i j => hA _ _
    have stp : ∀ (c : Nat) (hc : c ≤ n) (T : Int) (y : Option D), _ := fun c hc T y => det_step (fd := fr_determinant N) A (by omega) hc hb hA (ih c) T y
    show callF 1 5 (m_determinant (fr_determinant N)) _ = _
    generalize fr_determinant N = fd at *
    obtain ⟨τ', e, x, y, rfl⟩ := for_idx (g := gN 3) (b := dB fd)
      (fun k τ => ∃ x y, τ = [some (matF false (n + 1) A), some (.int (psum (fun c => sgn c * A 0 c * detF n (mino A 0 c)) k)), some (.int (sgn k)), x, y]) (rangeD 0 (n + 1)) 0 [some (matF false (n + 1) A), some (.int 0), some (.int 1), none, none] (fun k d τ hk hI' => by
        obtain ⟨x, y, rfl⟩ := hI'
        obtain ⟨h1, rfl⟩ := rangeD_get hk
        rw [Nat.zero_add, Int.zero_add]
        exact ⟨[some (matF false (n + 1) A), some (.int (psum (fun c => sgn c * A 0 c * detF n (mino A 0 c)) k)), some (.int (sgn k)), some (.int (k : Nat)), y], _, rfl, .inl (stp k (by omega) _ y), _, _, rfl⟩) ⟨none, none, rfl⟩
    rw [Nat.zero_add, length_rangeD] at e
    have hL := len_matF false (n + 1) A
    have e0 : sFor (iR1 (aCons (eZ (zC' gLen (zaCons (zVar 0) zaNil))) aNil)) (gN 3) (dB fd) [some (matF false (n + 1) A), some (.int 0), some (.int 1), none, none] = .nx [some (matF false (n + 1) A), some (.int (detF (n + 1) A)), some (.int (sgn (n + 1))), x, y] := by
      rw [x_for_range (N := ((n + 1 : Nat) : Int)) (n := n + 1) (τ1 := [some (matF false (n + 1) A), some (.int 0), some (.int 1), none, none]) (by
        generalize matF false (n + 1) A = M at *
        simp_arith [hL]) (by omega) (by omega) (by omega)]
      exact e
    have t0 : (((n + 1 : Nat) : Int) == 0) = false := by simp; omega
    refine (cF_ok (b := m_determinant fd) (n := 1) (N := 5) (τ0 := [some (matF false (n + 1) A), none, none, none, none]) rfl rfl (x_seq_ok (τ1 := [some (matF false (n + 1) A), none, none, none, none]) (by
        generalize matF false (n + 1) A = M at *
        simp_arith [hL, t0]) (x_seq_ok (τ1 := [some (matF false (n + 1) A), some (.int 0), none, none, none]) rfl (x_seq_ok (τ1 := [some (matF false (n + 1) A), some (.int 0), some (.int 1), none, none]) rfl (x_seq_ok e0 rfl))))).trans rfl
theorem fdet_ok {b : Nat} (hb : b ≤ 100000) {n : Nat} (hn : n ≤ 4) (A : Nat → Nat → Int) (hA : ∀ i j, (A i j).natAbs ≤ 2 ^ b) : f_determinant [matF false n A] = .ok (.int (detF n A)) := det_ok hb n 6 hn (by omega) A hA
/-! inverses -/
def sgP (k : Nat) (x : Int) : Int := if k % 2 = 1 then -x else x
def prt (n : Nat) (A : Nat → Nat → Int) (r c : Nat) : Int := sgP (r + c) (detF (n - 1) (mino A c r))
def invF (n : Nat) (A : Nat → Nat → Int) (g : Int) : Nat → Nat → Int := fun r c => (g * g * prt n A r c).fdiv (detF n A)
def iB : MS := (sSeq (sAsg (eCall f_determinant (aCons (eCall f_without (aCons (eVar 0) (aCons (eVar 6) (aCons (eVar 4) aNil)))) aNil)) (gN 7))
    (sSeq (sIf (tZ (z2 gEq (z2 gMod (z2 gAdd (zVar 4) (zVar 6)) (zC (.int 2))) (zC (.int 1)))) (sAsg (eZ (z1 gNeg (zVar 7))) (gN 7)) sNil)
    (sApp 5 (eZ (z2 gDivX (z2 gMul (z2 gMul (zVar 1) (zVar 1)) (zVar 7)) (zVar 2))))))
theorem inv_gen {fd fw : List D → CR} {M M1 M2 : D} {g wh r c dt p : Int} (hw : f_without = fw) (hd : f_determinant = fd) (z0 : isFz M = true) (z1 : freeze M = M) (e3 : fw [M, .int c, .int r] = .ok M1) (e4 : freeze M1 = M2) (hf : fd [M2] = .ok (.int dt)) (hp : p = if ((r + c) % 2 == 1) = true then -dt else dt) (v1 : gMul (.int g) (.int g) = some (.int (g * g))) (v2 : gMul (.int (g * g)) (.int p) = some (.int (g * g * p))) (v3 : gDivX (.int (g * g * p)) (.int wh) = some (.int ((g * g * p).fdiv wh))) {acc : List D} (hl : acc.length < 1000000) (m y : Option D) :
    iB [some M, some (.int g), some (.int wh), m, some (.int r), some (.lst true acc), some (.int c), y] = .nx [some M, some (.int g), some (.int wh), m, some (.int r), some (.lst true (acc ++ [.int ((g * g * p).fdiv wh)])), some (.int c), some (.int p)] := by
  unfold iB
  rw [hw, hd]
  clear hw hd
  cases h0 : ((r + c) % 2 == 1) with
  | true =>
    rw [h0, if_pos rfl] at hp
    subst hp
    simp_arith only [e3, e4, hf, z0, z1, h0, v1, v2, v3, hl]
  | false =>
    rw [h0, if_neg (by simp)] at hp
    subst hp
    simp_arith only [e3, e4, hf, z0, z1, h0, v1, v2, v3, hl]
def iR : MS := (sSeq (sAsg (eLst aNil) (gN 5)) (sSeq (sFor (iR1 (aCons (eZ (zC' gLen (zaCons (zVar 0) zaNil))) aNil)) (gN 6) iB) (sApp 3 (eVar 5))))
theorem inv_row {M : D} {g wh r N : Int} {n : Nat} (hL : gLen [M] = some (.int N)) (h0 : 0 ≤ N) (h1 : N < 1000000) (hN : N.toNat = n) (hn : n ≤ 1000) (f : Nat → Int)
    (stp : ∀ (c : Nat), c < n → ∀ (acc : List D) (m y : Option D), acc.length < 1000000 → ∃ y', iB [some M, some (.int g), some (.int wh), m, some (.int r), some (.lst true acc), some (.int (c : Nat)), y] = .nx [some M, some (.int g), some (.int wh), m, some (.int r), some (.lst true (acc ++ [.int (f c)])), some (.int (c : Nat)), y'])
    {md : List D} (hl : md.length < 1000000) (y1 y2 y3 : Option D) : ∃ z1 z2 z3, iR [some M, some (.int g), some (.int wh), some (.lst true md), some (.int r), y1, y2, y3] = .nx [some M, some (.int g), some (.int wh), some (.lst true (md ++ [.lst false (mrow n f)])), some (.int r), z1, z2, z3] := by
  obtain ⟨τ', e, x, y, rfl⟩ := for_idx (g := gN 6) (b := iB) (fun k τ => ∃ x y, τ = [some M, some (.int g), some (.int wh), some (.lst true md), some (.int r), some (.lst true (mrow k f)), x, y]) (rangeD 0 n) 0 [some M, some (.int g), some (.int wh), some (.lst true md), some (.int r), some (.lst true []), y2, y3] (fun k d τ hk hI' => by
      obtain ⟨x, y, rfl⟩ := hI'
      obtain ⟨h2, rfl⟩ := rangeD_get hk
      rw [Nat.zero_add, Int.zero_add]
      obtain ⟨y', e⟩ := stp k h2 (mrow k f) (some (.lst true md)) y (by unfold mrow; rw [List.length_map, List.length_range]; omega)
      refine ⟨_, _, rfl, .inl e, some (.int (k : Nat)), y', ?_⟩
      unfold mrow
      rw [List.range_succ, List.map_append]
      rfl) ⟨y2, y3, rfl⟩
  rw [Nat.zero_add, length_rangeD] at e
  have fm := fz_mrow n f
  generalize mrow n f = mr at *
  have e0 : sFor (iR1 (aCons (eZ (zC' gLen (zaCons (zVar 0) zaNil))) aNil)) (gN 6) iB [some M, some (.int g), some (.int wh), some (.lst true md), some (.int r), some (.lst true []), y2, y3] = .nx [some M, some (.int g), some (.int wh), some (.lst true md), some (.int r), some (.lst true mr), x, y] := by
    rw [x_for_range (N := N) (n := n) (τ1 := [some M, some (.int g), some (.int wh), some (.lst true md), some (.int r), some (.lst true []), y2, y3]) (by simp_arith [hL]) h0 h1 hN]
    exact e
  refine ⟨some (.lst false mr), x, y, ?_⟩
  unfold iR
  refine x_seq_ok (τ1 := [some M, some (.int g), some (.int wh), some (.lst true md), some (.int r), some (.lst true []), y2, y3]) (by simp_arith only [x_seq]) (x_seq_ok e0 ?_)
  simp_arith [fm, hl]
def invD (n : Nat) (B : Nat → Nat → Int) : D := .lst true ((List.range n).map fun r => .lst false (mrow n (B r)))
theorem fr_invD (n : Nat) (B : Nat → Nat → Int) : freeze (invD n B) = matF false n B := by
  show D.lst false (freezeL _) = _
  rw [fz_matL]; rfl
theorem prt_abs {b n : Nat} (hn : n ≤ 4) (A : Nat → Nat → Int) (hA : ∀ i j, (A i j).natAbs ≤ 2 ^ b) (r c : Nat) : (prt n A r c).natAbs ≤ 2 ^ (3 * (b + 2)) := by
  have h := detF_abs (b := b) (n - 1) (by omega) (mino A c r) fun i j => hA _ _
  have h2 : (n - 1) * (b + 2) ≤ 3 * (b + 2) := Nat.mul_le_mul_right _ (by omega)
  have h3 := Nat.le_trans h (Nat.pow_le_pow_right (by decide) h2)
  unfold prt sgP
  split
  · rw [Int.natAbs_neg]; exact h3
  · exact h3
theorem sg_cast (r c : Nat) (x : Int) : sgP (r + c) x = if ((((r : Nat) : Int) + ((c : Nat) : Int)) % 2 == 1) = true then -x else x := by
  unfold sgP
  by_cases h : (r + c) % 2 = 1
  · rw [if_pos h, if_pos (by simp; omega)]
  · rw [if_neg h, if_neg (by simp; omega)]
theorem inv_join {M R : D} {g wh N : Int} {n : Nat} {x y z w : Option D} (hL : gLen [M] = some (.int N)) (h0 : 0 ≤ N) (h1 : N < 1000000) (hN : N.toNat = n) (hd : f_determinant [M] = .ok (.int wh)) (z0 : isFz M = true) (z1 : freeze M = M) (hz : (wh == 0) = false) (e : forL (gN 4) iR (rangeD 0 n) [some M, some (.int g), some (.int wh), some (.lst true []), none, none, none, none] = .nx [some M, some (.int g), some (.int wh), some R, x, y, z, w]) : f_inverse [M, .int g] = .ok R := by
  have e0 : sFor (iR1 (aCons (eZ (zC' gLen (zaCons (zVar 0) zaNil))) aNil)) (gN 4) iR [some M, some (.int g), some (.int wh), some (.lst true []), none, none, none, none] = .nx [some M, some (.int g), some (.int wh), some R, x, y, z, w] := by
    rw [x_for_range (N := N) (n := n) (τ1 := [some M, some (.int g), some (.int wh), some (.lst true []), none, none, none, none]) (by simp_arith [hL]) h0 h1 hN]
    exact e
  generalize hfd : f_determinant = fd at *
  have s1 : sAsg (eCall f_determinant (aCons (eVar 0) aNil)) (gN 2) [some M, some (.int g), none, none, none, none, none, none] = .nx [some M, some (.int g), some (.int wh), none, none, none, none, none] := by
    rw [hfd]; simp_arith [z0, z1, hd]
  refine (cF_ok (b := m_inverse) (n := 2) (N := 8) (τ0 := [some M, some (.int g), none, none, none, none, none, none]) rfl rfl (x_seq_ok s1 (x_seq_ok (τ1 := [some M, some (.int g), some (.int wh), none, none, none, none, none]) (by simp_arith [hz]) (x_seq_ok (τ1 := [some M, some (.int g), some (.int wh), some (.lst true []), none, none, none, none]) rfl (x_seq_ok e0 rfl))))).trans rfl
theorem inverse_ok {b : Nat} (hb : b ≤ 2000) {n : Nat} (hn : n ≤ 4) (A : Nat → Nat → Int) (hA : ∀ i j, (A i j).natAbs ≤ 2 ^ b) {g : Int} (hg : g.natAbs ≤ 2 ^ 60) : f_inverse [matF false n A, .int g] = .ok (if detF n A = 0 then .non else invD n (invF n A g)) := by
  have hd := fdet_ok (b := b) (by omega) hn A hA
  have hL := len_matF false n A
  have da := detF_abs (b := b) n hn A hA
  have z0 := isfz_matF n A
  have z1 := fr_matF false n A
  by_cases hz : detF n A = 0
  · rw [hz] at hd
    rw [if_pos hz]
    generalize matF false n A = M at *
    simp_arith [f_inverse, m_inverse, hd, z0, z1]
  · rw [if_neg hz]
    have hz' : (detF n A == 0) = false := by simp [hz]
    have lg : (detF n A).natAbs.log2 < 9000 := log_of_le da (by have : n * (b + 2) ≤ 4 * (b + 2) := Nat.mul_le_mul_right _ hn; omega)
    have stp : ∀ (r : Nat), r < n → ∀ (c : Nat), c < n → ∀ (acc : List D) (m y : Option D), acc.length < 1000000 → ∃ y', iB [some (matF false n A), some (.int g), some (.int (detF n A)), m, some (.int (r : Nat)), some (.lst true acc), some (.int (c : Nat)), y] = .nx [some (matF false n A), some (.int g), some (.int (detF n A)), m, some (.int (r : Nat)), some (.lst true (acc ++ [.int (invF n A g r c)])), some (.int (c : Nat)), y'] := fun r hr c hc acc m y hl => by
      obtain ⟨k, rfl⟩ : ∃ k, n = k + 1 := ⟨n - 1, by omega⟩
      have m1 : L2.CMulW g g := mulLe (a := 60) (b := 60) hg hg (by omega)
      have m2 : L2.CMulW (g * g) (prt (k + 1) A r c) := mulLe (a := 120) (b := 3 * (b + 2)) (by
        rw [Int.natAbs_mul, show 120 = 60 + 60 by rfl, Nat.pow_add]
        exact Nat.mul_le_mul hg hg) (prt_abs hn A hA r c) (by omega)
      exact ⟨_, inv_gen rfl rfl z0 z1 (wo_ok A (i := c) (j := r) (by omega) (by omega) (by omega)) (fr_matF true k (mino A c r)) (fdet_ok (b := b) (by omega) (by omega) (mino A c r) fun i j => hA _ _) (sg_cast r c _) (vMul m1) (vMul m2) (vDivX hz lg) hl m y⟩
    obtain ⟨τ', e, x, y, z, w, rfl⟩ := for_idx (g := gN 4) (b := iR) (fun k τ => ∃ x y z w, τ = [some (matF false n A), some (.int g), some (.int (detF n A)), some (.lst true ((List.range k).map fun r => .lst false (mrow n (invF n A g r)))), x, y, z, w]) (rangeD 0 n) 0 [some (matF false n A), some (.int g), some (.int (detF n A)), some (.lst true []), none, none, none, none] (fun k d τ hk hI' => by
      obtain ⟨x, y, z, w, rfl⟩ := hI'
      obtain ⟨h2, rfl⟩ := rangeD_get hk
      rw [Nat.zero_add, Int.zero_add]
      obtain ⟨z1, z2, z3, e⟩ := inv_row (r := ((k : Nat) : Int)) hL (by omega) (by omega) (n := n) (by omega) (by omega) (invF n A g k) (stp k h2) (md := (List.range k).map fun r => .lst false (mrow n (invF n A g r))) (by rw [List.length_map, List.length_range]; omega) y z w
      refine ⟨_, _, rfl, .inl e, some (.int (k : Nat)), z1, z2, z3, ?_⟩
      rw [List.range_succ, List.map_append]
      rfl) ⟨none, none, none, none, rfl⟩
    rw [Nat.zero_add, length_rangeD] at e
    exact inv_join (N := ((n : Nat) : Int)) hL (by omega) (by omega) (by omega) hd z0 z1 hz' e
theorem cut_take {α : Type} (l : List α) (a : Nat) : cutL l none (some ((a : Nat) : Int)) = l.take a := by
  unfold cutL
  rw [HT.sIx_none, HT.sIx_nat, List.drop_zero, Nat.sub_zero]
  by_cases h : a ≤ l.length
  · rw [Nat.min_eq_left h]
  · rw [Nat.min_eq_right (by omega), List.take_of_length_le (Nat.le_refl _), List.take_of_length_le (by omega)]
theorem cut_drop {α : Type} (l : List α) (a : Nat) : cutL l (some ((a : Nat) : Int)) none = l.drop a := by
  unfold cutL
  rw [HT.sIx_none, HT.sIx_nat]
  by_cases h : a ≤ l.length
  · rw [Nat.min_eq_left h, List.take_of_length_le (by rw [List.length_drop]; omega)]
  · rw [Nat.min_eq_right (by omega), Nat.sub_self, List.take_zero, List.drop_eq_nil_of_le (by omega)]
def iN (k : Nat) : D := .int (k : Int)
def ordD (o : List Nat × Int) : D := .tup [.lst false (o.1.map iN), .int o.2]
def sg2 (k a : Nat) : Int := 1 - 2 * (((k : Int) - (a : Int)) % 2)
def ins (k : Nat) (o : List Nat × Int) (a : Nat) : List Nat × Int := (o.1.take a ++ [k] ++ o.1.drop a, o.2 * sg2 k a)
def ords : Nat → List (List Nat × Int)
  | 0 => [([], 1)]
  | k + 1 => (ords k).flatMap fun o => (List.range (k + 1)).map (ins k o)
def oI : MS := sApp 3 (eTup (aCons (eCat (eCat (eSlice cutLd (eVar 4) pNone (pSome (eVar 6))) (eLst (aCons (eVar 2) aNil))) (eSlice cutLd (eVar 4) (pSome (eVar 6)) pNone)) (aCons (eZ (z2 gMul (zVar 5) (z2 gSub (zC (.int 1)) (z2 gMul (zC (.int 2)) (z2 gMod (z2 gSub (zVar 2) (zVar 6)) (zC (.int 2))))))) aNil)))
theorem oi_gen {k a s : Int} {l lt ld : List D} (h1 : cutL l none (some a) = lt) (h2 : cutL l (some a) none = ld) (f1 : freezeL lt = lt) (f2 : freezeL ld = ld) (hl : lt.length + (1 + ld.length) ≤ 1000) (hs : s.natAbs ≤ 1) {acc : List D} (hl2 : acc.length < 1000000) (z m : Option D) :
    oI [z, m, some (.int k), some (.lst true acc), some (.lst false l), some (.int s), some (.int a)] = .nx [z, m, some (.int k), some (.lst true (acc ++ [.tup [.lst false (lt ++ [.int k] ++ ld), .int (s * (1 - 2 * ((k - a) % 2)))]])), some (.lst false l), some (.int s), some (.int a)] := by
  have v1 : gMul (.int 2) (.int ((k - a) % 2)) = some (.int (2 * ((k - a) % 2))) := vMul (mulW 10 10 (by decide) (by omega) (by decide))
  have v2 : gMul (.int s) (.int (1 - 2 * ((k - a) % 2))) = some (.int (s * (1 - 2 * ((k - a) % 2)))) := vMul (mulW 10 10 (by omega) (by omega) (by decide))
  have c1 : catD (.lst false lt) (.lst false [.int k]) = some (.lst true (lt ++ [.int k])) := vCat (by rw [List.length_cons, List.length_nil]; omega)
  have c2 : catD (.lst false (lt ++ [.int k])) (.lst false ld) = some (.lst true (lt ++ [.int k] ++ ld)) := vCat (by rw [List.length_append, List.length_cons, List.length_nil]; omega)
  have f3 : freezeL [D.int k] = [D.int k] := rfl
  have f4 : freezeL (lt ++ [D.int k]) = lt ++ [D.int k] := by
    have : ∀ xs ys : List D, freezeL (xs ++ ys) = freezeL xs ++ freezeL ys := fun xs ys => by
      induction xs with
      | nil => rfl
      | cons x xs ih => rw [List.cons_append, x_fL1, ih]; rfl
    rw [this, f1, f3]
  have f5 : freezeL (lt ++ [D.int k] ++ ld) = lt ++ [D.int k] ++ ld := by
    have : ∀ xs ys : List D, freezeL (xs ++ ys) = freezeL xs ++ freezeL ys := fun xs ys => by
      induction xs with
      | nil => rfl
      | cons x xs ih => rw [List.cons_append, x_fL1, ih]; rfl
    rw [this, f4, f2]
  unfold oI
  generalize lt ++ [D.int k] = LT at *
  generalize LT ++ ld = LL at *
  simp_arith only [h1, h2, c1, c2, v1, v2, f1, f2, f4, f5, hl2]
theorem fz_iN (l : List Nat) : freezeL (l.map iN) = l.map iN := fz_map (fun _ => rfl) _
theorem oi_ok {k a : Nat} {o : List Nat × Int} (hl : o.1.length ≤ 100) (hs : o.2.natAbs ≤ 1) {acc : List D} (hl2 : acc.length < 1000000) (z m : Option D) :
    oI [z, m, some (.int (k : Nat)), some (.lst true acc), some (.lst false (o.1.map iN)), some (.int o.2), some (.int (a : Nat))] = .nx [z, m, some (.int (k : Nat)), some (.lst true (acc ++ [ordD (ins k o a)])), some (.lst false (o.1.map iN)), some (.int o.2), some (.int (a : Nat))] := by
  rw [oi_gen (k := ((k : Nat) : Int)) (a := ((a : Nat) : Int)) (lt := (o.1.take a).map iN) (ld := (o.1.drop a).map iN) (by rw [cut_take, List.map_take]) (by rw [cut_drop, List.map_drop]) (fz_iN _) (fz_iN _) (by rw [List.length_map, List.length_map, List.length_take, List.length_drop]; omega) hs hl2]
  unfold ordD ins sg2
  rw [List.map_append, List.map_append]
  rfl
def oM : MS := sFor (iR1 (aCons (eZ (z2 gAdd (zVar 2) (zC (.int 1)))) aNil)) (gN 6) oI
theorem om_ok {k : Nat} (hk : k ≤ 4) {o : List Nat × Int} (hl : o.1.length ≤ 100) (hs : o.2.natAbs ≤ 1) {acc : List D} (hl2 : acc.length < 10000) (z m x : Option D) :
    ∃ x', oM [z, m, some (.int (k : Nat)), some (.lst true acc), some (.lst false (o.1.map iN)), some (.int o.2), x] = .nx [z, m, some (.int (k : Nat)), some (.lst true (acc ++ ((List.range (k + 1)).map (ins k o)).map ordD)), some (.lst false (o.1.map iN)), some (.int o.2), x'] := by
  obtain ⟨τ', e, x', rfl⟩ := for_idx (g := gN 6) (b := oI) (fun j τ => ∃ x, τ = [z, m, some (.int (k : Nat)), some (.lst true (acc ++ ((List.range j).map (ins k o)).map ordD)), some (.lst false (o.1.map iN)), some (.int o.2), x]) (rangeD 0 (k + 1)) 0 [z, m, some (.int (k : Nat)), some (.lst true acc), some (.lst false (o.1.map iN)), some (.int o.2), x] (fun j d τ hj hI => by
    obtain ⟨x, rfl⟩ := hI
    obtain ⟨h2, rfl⟩ := rangeD_get hj
    rw [Nat.zero_add, Int.zero_add]
    have st := oi_ok (k := k) (a := j) hl hs (acc := acc ++ ((List.range j).map (ins k o)).map ordD) (by rw [List.length_append, List.length_map, List.length_map, List.length_range]; omega) z m
    refine ⟨_, _, rfl, .inl st, some (.int (j : Nat)), ?_⟩
    rw [List.range_succ, List.map_append, List.map_append, List.append_assoc]
    rfl) ⟨x, by simp⟩
  rw [Nat.zero_add, length_rangeD] at e
  refine ⟨x', ?_⟩
  unfold oM
  have hN : ∀ (kk : Int) (b c d : Option D), iR1 (aCons (eZ (z2 gAdd (zVar 2) (zC (.int 1)))) aNil) [z, m, some (.int kk), b, c, d, x] = iR1' [.int (kk + 1)] [z, m, some (.int kk), b, c, d, x] := fun kk b c d => by simp_arith [x_seq]
  rw [x_for, hN, x_iR11 (by omega) (by omega), x_s1, show (((k : Nat) : Int) + 1).toNat = k + 1 by omega]
  exact e
def oG : D → Bn.Env → Option Bn.Env := gT 2 (gCons' (gN 4) (gCons' (gN 5) gNil'))
def oO : MS := (sSeq (sAsg (eLst aNil) (gN 3)) (sSeq (sFor (iL (eVar 1)) oG oM) (sAsg (eVar 3) (gN 1))))
theorem fz_ordD (l : List (List Nat × Int)) : freezeL (l.map ordD) = l.map ordD := fz_map (fun _ => rfl) _
theorem oo_ok {k : Nat} (hk : k ≤ 4) {os : List (List Nat × Int)} (ho : ∀ o ∈ os, o.1.length ≤ 100 ∧ o.2.natAbs ≤ 1) (hl : os.length ≤ 1000) (b : Bool) (z x1 x2 x3 x4 : Option D) :
    ∃ y1 y2 y3 y4, oO [z, some (.lst b (os.map ordD)), some (.int (k : Nat)), x1, x2, x3, x4] = .nx [z, some (.lst false ((os.flatMap fun o => (List.range (k + 1)).map (ins k o)).map ordD)), some (.int (k : Nat)), y1, y2, y3, y4] := by
  obtain ⟨τ', e, y1, y2, y3, rfl⟩ := for_idx (g := oG) (b := oM) (fun j τ => ∃ x y w, τ = [z, some (.lst false (os.map ordD)), some (.int (k : Nat)), some (.lst true (((os.take j).flatMap fun o => (List.range (k + 1)).map (ins k o)).map ordD)), x, y, w]) (os.map ordD) 0 [z, some (.lst false (os.map ordD)), some (.int (k : Nat)), some (.lst true []), x2, x3, x4] (fun j d τ hj hI => by
    obtain ⟨x, y, w, rfl⟩ := hI
    rw [Nat.zero_add] at *
    rw [List.getElem?_map] at hj
    cases e : os[j]? with
    | none => rw [e] at hj; cases hj
    | some o =>
      rw [e] at hj
      cases hj
      have hj2 := (List.getElem?_eq_some_iff.mp e).1
      obtain ⟨h1, h2⟩ := ho o (List.mem_of_getElem? e)
      have len : (((os.take j).flatMap fun o => (List.range (k + 1)).map (ins k o)).map ordD).length < 10000 := by
        rw [List.length_map, List.length_flatMap]
        have : ∀ l : List (List Nat × Int), (l.map fun o => ((List.range (k + 1)).map (ins k o)).length).sum = l.length * (k + 1) := fun l => by
          induction l with
          | nil => rw [List.map_nil, List.sum_nil, List.length_nil, Nat.zero_mul]
          | cons a l ih => rw [List.map_cons, List.sum_cons, ih, List.length_map, List.length_range, List.length_cons, Nat.succ_mul]; omega
        rw [this, List.length_take]
        have : min j os.length * (k + 1) ≤ 1000 * 5 := Nat.mul_le_mul (by omega) (by omega)
        omega
      obtain ⟨x', st⟩ := om_ok hk h1 h2 len z (some (.lst false (os.map ordD))) w
      refine ⟨_, _, rfl, .inl st, some (.lst false (o.1.map iN)), some (.int o.2), x', ?_⟩
      rw [List.take_succ, e, List.flatMap_append, List.map_append]
      show _ = _
      simp) ⟨x2, x3, x4, by simp⟩
  rw [Nat.zero_add, List.length_map, List.take_of_length_le (Nat.le_refl _)] at e
  refine ⟨some (.lst false ((os.flatMap fun o => (List.range (k + 1)).map (ins k o)).map ordD)), y1, y2, y3, ?_⟩
  have f1 := fz_ordD os
  have f2 := fz_ordD (os.flatMap fun o => (List.range (k + 1)).map (ins k o))
  generalize (os.flatMap fun o => (List.range (k + 1)).map (ins k o)).map ordD = G at *
  generalize os.map ordD = OS at *
  generalize ((k : Nat) : Int) = k' at *
  unfold oO
  refine x_seq_ok (τ1 := [z, some (.lst b OS), some (.int k'), some (.lst true []), x2, x3, x4]) (by simp_arith only [x_seq]) ?_
  have ei : iL (eVar 1) [z, some (.lst b OS), some (.int k'), some (.lst true []), x2, x3, x4] = .ok OS [z, some (.lst false OS), some (.int k'), some (.lst true []), x2, x3, x4] := by
    cases b with
    | true => simp_arith [f1]
    | false => simp_arith [x_seq]
  refine x_seq_ok (τ1 := [z, some (.lst false OS), some (.int k'), some (.lst true G), y1, y2, y3]) (by rw [x_for, ei, x_s1]; exact e) ?_
  simp_arith [f2]
theorem ords_len : ∀ n, n ≤ 4 → ∀ o ∈ ords n, o.1.length = n ∧ (o.2 = 1 ∨ o.2 = -1) ∧ ∀ k ∈ o.1, k < n := by decide
theorem ords_le : ∀ n, n ≤ 4 → (ords n).length ≤ 1000 := by decide
theorem orders_ok {n : Nat} (hn : n ≤ 4) : ∃ b, f__law_orders [.int (n : Nat)] = .ok (.lst b ((ords n).map ordD)) := by
  obtain ⟨τ', e, b, y1, y2, y3, y4, y5, rfl⟩ := for_idx (g := gN 2) (b := oO) (fun k τ => ∃ b x y u v w, τ = [some (.int (n : Nat)), some (.lst b ((ords k).map ordD)), x, y, u, v, w]) (rangeD 0 n) 0 [some (.int (n : Nat)), some (.lst true ((ords 0).map ordD)), none, none, none, none, none] (fun k d τ hk hI => by
    obtain ⟨b, x, y, u, v, w, rfl⟩ := hI
    obtain ⟨h2, rfl⟩ := rangeD_get hk
    rw [Nat.zero_add, Int.zero_add]
    obtain ⟨y1, y2, y3, y4, st⟩ := oo_ok (k := k) (by omega) (os := ords k) (fun o ho => by
      obtain ⟨q1, q2, _⟩ := ords_len k (by omega) o ho
      exact ⟨by omega, by omega⟩) (ords_le k (by omega)) b (some (.int (n : Nat))) y u v w
    exact ⟨_, _, rfl, .inl st, false, some (.int (k : Nat)), y1, y2, y3, y4, rfl⟩) ⟨true, none, none, none, none, none, rfl⟩
  rw [Nat.zero_add, length_rangeD] at e
  refine ⟨b, ?_⟩
  generalize (ords n).map ordD = R at *
  have e0 : sFor (iR1 (aCons (eVar 0) aNil)) (gN 2) oO [some (.int (n : Nat)), some (.lst true ((ords 0).map ordD)), none, none, none, none, none] = .nx [some (.int (n : Nat)), some (.lst b R), y1, y2, y3, y4, y5] := by
    rw [x_for_range (N := ((n : Nat) : Int)) (n := n) (τ1 := [some (.int (n : Nat)), some (.lst true ((ords 0).map ordD)), none, none, none, none, none]) (by simp_arith [x_seq]) (by omega) (by omega) (by omega)]
    exact e
  exact (cF_ok (b := m__law_orders) (n := 1) (N := 7) (τ0 := [some (.int (n : Nat)), none, none, none, none, none, none]) rfl rfl (x_seq_ok (τ1 := [some (.int (n : Nat)), some (.lst true ((ords 0).map ordD)), none, none, none, none, none]) (by simp_arith only [ords, ordD]) (x_seq_ok e0 rfl))).trans rfl
def prodP (A : Nat → Nat → Int) (o : List Nat × Int) : Nat → Int
  | 0 => o.2
  | k + 1 => prodP A o k * A k (o.1.getD k 0)
def allO (n : Nat) (A : Nat → Nat → Int) (os : List (List Nat × Int)) : Int := os.foldl (fun t o => t + prodP A o n) 0
theorem prodP_abs {b : Nat} {A : Nat → Nat → Int} (hA : ∀ i j, (A i j).natAbs ≤ 2 ^ b) {o : List Nat × Int} (ho : o.2.natAbs ≤ 1) : ∀ k, (prodP A o k).natAbs ≤ 2 ^ (k * b)
  | 0 => by rw [Nat.zero_mul]; exact ho
  | k + 1 => by
    rw [prodP, Int.natAbs_mul, Nat.succ_mul, Nat.pow_add]
    exact Nat.mul_le_mul (prodP_abs hA ho k) (hA _ _)
def aI : MS := sAsg (eZ (z2 gMul (zVar 4) (z2 gIx (z2 gIx (zVar 0) (zVar 5)) (z2 gIx (zVar 3) (zVar 5))))) (gN 4)
theorem ai_gen {M R O : D} {k v : D} {s a : Int} (e1 : gIx M k = some R) (e2 : gIx O k = some v) (e3 : gIx R v = some (.int a)) (v1 : gMul (.int s) (.int a) = some (.int (s * a))) (x y : Option D) :
    aI [some M, x, y, some O, some (.int s), some k] = .nx [some M, x, y, some O, some (.int (s * a)), some k] := by
  unfold aI
  simp_arith [e1, e2, e3, v1]
def aO : MS := (sSeq (sFor (iR1 (aCons (eZ (zC' gLen (zaCons (zVar 0) zaNil))) aNil)) (gN 5) aI) (sAsg (eZ (z2 gAdd (zVar 2) (zVar 4))) (gN 2)))
theorem ords1 : ords 1 = [([0], 1)] := by decide
theorem ords2 : ords 2 = [([1, 0], -1), ([0, 1], 1)] := by decide
theorem ords3 : ords 3 = [([2, 1, 0], -1), ([1, 2, 0], 1), ([1, 0, 2], -1), ([2, 0, 1], 1), ([0, 2, 1], -1), ([0, 1, 2], 1)] := by decide
theorem ords4 : ords 4 = [([3, 2, 1, 0], 1), ([2, 3, 1, 0], -1), ([2, 1, 3, 0], 1), ([2, 1, 0, 3], -1), ([3, 1, 2, 0], -1), ([1, 3, 2, 0], 1), ([1, 2, 3, 0], -1), ([1, 2, 0, 3], 1), ([3, 1, 0, 2], 1), ([1, 3, 0, 2], -1), ([1, 0, 3, 2], 1), ([1, 0, 2, 3], -1), ([3, 2, 0, 1], -1), ([2, 3, 0, 1], 1), ([2, 0, 3, 1], -1), ([2, 0, 1, 3], 1), ([3, 0, 2, 1], 1), ([0, 3, 2, 1], -1), ([0, 2, 3, 1], 1), ([0, 2, 1, 3], -1), ([3, 0, 1, 2], -1), ([0, 3, 1, 2], 1), ([0, 1, 3, 2], -1), ([0, 1, 2, 3], 1)] := by decide
theorem ao_join {M O : D} {T p N : Int} {n : Nat} {x y z s : Option D} (hL : gLen [M] = some (.int N)) (h0 : 0 ≤ N) (h1 : N < 1000000) (hN : N.toNat = n) (e : forL (gN 5) aI (rangeD 0 n) [some M, x, some (.int T), some O, s, y] = .nx [some M, x, some (.int T), some O, some (.int p), z]) :
    aO [some M, x, some (.int T), some O, s, y] = .nx [some M, x, some (.int (T + p)), some O, some (.int p), z] := by
  unfold aO
  refine x_seq_ok (τ1 := [some M, x, some (.int T), some O, some (.int p), z]) ?_ (by simp_arith [x_seq])
  rw [x_for_range (N := N) (n := n) (τ1 := [some M, x, some (.int T), some O, s, y]) (by simp_arith [hL]) h0 h1 hN]
  exact e
theorem all_join {M : D} {os : List D} {T : Int} {x y z : Option D} (hM : isFz M = true) (e : forL (gT 2 (gCons' (gN 3) (gCons' (gN 4) gNil'))) aO os [some M, some (.lst false os), some (.int 0), none, none, none] = .nx [some M, some (.lst false os), some (.int T), x, y, z]) : f__law_all_orders [M, .lst false os] = .ok (.int T) := by
  have e0 : sFor (iL (eVar 1)) (gT 2 (gCons' (gN 3) (gCons' (gN 4) gNil'))) aO [some M, some (.lst false os), some (.int 0), none, none, none] = .nx [some M, some (.lst false os), some (.int T), x, y, z] := by
    rw [x_for]
    rw [show iL (eVar 1) [some M, some (.lst false os), some (.int 0), none, none, none] = .ok os [some M, some (.lst false os), some (.int 0), none, none, none] by simp_arith [x_seq]]
    exact e
  exact (cF_ok (b := m__law_all_orders) (n := 2) (N := 6) (τ0 := [some M, some (.lst false os), none, none, none, none]) rfl rfl (x_seq_ok (τ1 := [some M, some (.lst false os), some (.int 0), none, none, none]) rfl (x_seq_ok e0 rfl))).trans rfl
theorem ao_ok {b n : Nat} (hb : b ≤ 100000) (hn : n ≤ 4) (A : Nat → Nat → Int) (hA : ∀ i j, (A i j).natAbs ≤ 2 ^ b) {o : List Nat × Int} (ho : o.2.natAbs ≤ 1) (h1 : o.1.length = n) (h2 : ∀ k ∈ o.1, k < n) (T : Int) (x y : Option D) :
    ∃ z, aO [some (matF false n A), x, some (.int T), some (.lst false (o.1.map iN)), some (.int o.2), y] = .nx [some (matF false n A), x, some (.int (T + prodP A o n)), some (.lst false (o.1.map iN)), some (.int (prodP A o n)), z] := by
  obtain ⟨τ', e, z, rfl⟩ := for_idx (g := gN 5) (b := aI) (fun k τ => ∃ z, τ = [some (matF false n A), x, some (.int T), some (.lst false (o.1.map iN)), some (.int (prodP A o k)), z]) (rangeD 0 n) 0 [some (matF false n A), x, some (.int T), some (.lst false (o.1.map iN)), some (.int o.2), y] (fun k d τ hk hI => by
    obtain ⟨z, rfl⟩ := hI
    obtain ⟨h3, rfl⟩ := rangeD_get hk
    rw [Nat.zero_add, Int.zero_add]
    have hg : o.1[k]? = some (o.1.getD k 0) := by
      rw [List.getD_eq_getElem?_getD, List.getElem?_eq_getElem (by omega)]; rfl
    have hlt : o.1.getD k 0 < n := h2 _ (List.mem_of_getElem? hg)
    have e2 : gIx (.lst false (o.1.map iN)) (.int (k : Nat)) = some (iN (o.1.getD k 0)) := vIxL_of rfl (by rw [List.getElem?_map, hg]; rfl)
    have e3 : gIx (.lst false (mrow n (A k))) (iN (o.1.getD k 0)) = some (.int (A k (o.1.getD k 0))) := ix_mrow false (A k) rfl hlt
    have m : L2.CMulW (prodP A o k) (A k (o.1.getD k 0)) := mulLe (prodP_abs hA ho k) (hA _ _) (by
      have : k * b ≤ 4 * b := Nat.mul_le_mul_right _ (by omega)
      omega)
    exact ⟨_, _, rfl, .inl (ai_gen (ix_matF false A rfl h3) e2 e3 (vMul m) x (some (.int T))), _, rfl⟩) ⟨y, rfl⟩
  rw [Nat.zero_add, length_rangeD] at e
  have hL := len_matF false n A
  refine ⟨z, ?_⟩
  exact ao_join (N := ((n : Nat) : Int)) hL (by omega) (by omega) (by omega) e
theorem all_orders_ok {b n : Nat} (hb : b ≤ 100000) (hn : n ≤ 4) (A : Nat → Nat → Int) (hA : ∀ i j, (A i j).natAbs ≤ 2 ^ b) : f__law_all_orders [matF false n A, .lst false ((ords n).map ordD)] = .ok (.int (allO n A (ords n))) := by
  obtain ⟨τ', e, x, y, z, rfl⟩ := for_idx (g := gT 2 (gCons' (gN 3) (gCons' (gN 4) gNil'))) (b := aO) (fun k τ => ∃ x y z, τ = [some (matF false n A), some (.lst false ((ords n).map ordD)), some (.int (allO n A ((ords n).take k))), x, y, z]) ((ords n).map ordD) 0 [some (matF false n A), some (.lst false ((ords n).map ordD)), some (.int 0), none, none, none] (fun k d τ hk hI => by
    obtain ⟨x, y, z, rfl⟩ := hI
    rw [Nat.zero_add] at *
    rw [List.getElem?_map] at hk
    cases e : (ords n)[k]? with
    | none => rw [e] at hk; cases hk
    | some o =>
      rw [e] at hk
      cases hk
      obtain ⟨q1, q2, q3⟩ := ords_len n hn o (List.mem_of_getElem? e)
      obtain ⟨z', st⟩ := ao_ok hb hn A hA (o := o) (by omega) q1 q3 (allO n A ((ords n).take k)) (some (.lst false ((ords n).map ordD))) z
      refine ⟨_, _, rfl, .inl st, some (.lst false (o.1.map iN)), some (.int (prodP A o n)), z', ?_⟩
      rw [List.take_succ, e]
      unfold allO
      rw [List.foldl_append]
      rfl) ⟨none, none, none, by rw [List.take_zero]; rfl⟩
  rw [Nat.zero_add, List.length_map, List.take_of_length_le (Nat.le_refl _)] at e
  exact all_join (by rfl) e
theorem all_det : ∀ n, n ≤ 4 → ∀ A : Nat → Nat → Int, allO n A (ords n) = detF n A
  | 0, _, A => rfl
  | 1, _, A => by
    rw [ords1]; simp [allO, prodP, detF, psum, sgn, mino, sk]
  | 2, _, A => by
    rw [ords2]; simp [allO, prodP, detF, psum, sgn, mino, sk]; grind
  | 3, _, A => by
    rw [ords3]; simp [allO, prodP, detF, psum, sgn, mino, sk]; grind
  | 4, _, A => by
    rw [ords4]; simp [allO, prodP, detF, psum, sgn, mino, sk]; grind
  | n + 5, h, A => absurd h (by omega)
def mB : MS := (sIf (tZ (z2 gNe (zVar 4) (zVar 1))) (sApp 3 (eCat (eSlice cutLd (eZ (z2 gIx (zVar 0) (zVar 4))) pNone (pSome (eVar 2))) (eSlice cutLd (eZ (z2 gIx (zVar 0) (zVar 4))) (pSome (eZ (z2 gAdd (zVar 2) (zC (.int 1))))) pNone))) sNil)
theorem mb_gen {M : D} {vi va : D} {j : Int} {r lt ld : List D} {b : Bool} (e : gNe va vi = some (.bl b)) (e1 : gIx M va = some (.lst false r)) (h1 : cutL r none (some j) = lt) (h2 : cutL r (some (j + 1)) none = ld) (f1 : freezeL lt = lt) (f2 : freezeL ld = ld) (hl : lt.length + ld.length ≤ 1000) {acc : List D} (hl2 : acc.length < 1000000) :
    mB [some M, some vi, some (.int j), some (.lst true acc), some va] = .nx [some M, some vi, some (.int j), some (.lst true (if b then acc ++ [.lst true (lt ++ ld)] else acc)), some va] := by
  have c1 : catD (.lst false lt) (.lst false ld) = some (.lst true (lt ++ ld)) := vCat (by omega)
  unfold mB
  generalize lt ++ ld = LL at *
  cases b with
  | true => simp_arith [e, e1, h1, h2, f1, f2, c1, hl2]
  | false => simp_arith [e]
theorem min_join {M vi vj R : D} {N : Int} {n : Nat} {x : Option D} (hL : gLen [M] = some (.int N)) (h0 : 0 ≤ N) (h1 : N < 1000000) (hN : N.toNat = n) (e : forL (gN 4) mB (rangeD 0 n) [some M, some vi, some vj, some (.lst true []), none] = .nx [some M, some vi, some vj, some R, x]) : f__law_minor [M, vi, vj] = .ok R := by
  have e0 : sFor (iR1 (aCons (eZ (zC' gLen (zaCons (zVar 0) zaNil))) aNil)) (gN 4) mB [some M, some vi, some vj, some (.lst true []), none] = .nx [some M, some vi, some vj, some R, x] := by
    rw [x_for_range (N := N) (n := n) (τ1 := [some M, some vi, some vj, some (.lst true []), none]) (by simp_arith [hL]) h0 h1 hN]
    exact e
  exact (cF_ok (b := m__law_minor) (n := 3) (N := 5) (τ0 := [some M, some vi, some vj, none, none]) rfl rfl (x_seq_ok (τ1 := [some M, some vi, some vj, some (.lst true []), none]) rfl (x_seq_ok e0 rfl))).trans rfl
theorem cut_sk : ∀ n < 4, ∀ j < n + 1, (List.range (n + 1)).take j ++ (List.range (n + 1)).drop (j + 1) = (List.range n).map (sk j) := by decide
theorem minor_ok (A : Nat → Nat → Int) {n i j : Nat} (hn : n ≤ 3) (hi : i ≤ n) (hj : j ≤ n) : f__law_minor [matF false (n + 1) A, .int (i : Nat), .int (j : Nat)] = .ok (matF true n (mino A i j)) := by
  let R : Nat → D := fun a => .lst true (((List.range (n + 1)).take j).map (fun k => D.int (A a k)) ++ ((List.range (n + 1)).drop (j + 1)).map fun k => D.int (A a k))
  obtain ⟨τ', e, x, rfl⟩ := for_idx (g := gN 4) (b := mB) (fun k τ => ∃ x, τ = [some (matF false (n + 1) A), some (.int (i : Nat)), some (.int (j : Nat)), some (.lst true (((List.range k).filter fun k => !(k == i)).map R)), x]) (rangeD 0 (n + 1)) 0 [some (matF false (n + 1) A), some (.int (i : Nat)), some (.int (j : Nat)), some (.lst true []), none] (fun k d τ hk hI' => by
      obtain ⟨x, rfl⟩ := hI'
      obtain ⟨h2, rfl⟩ := rangeD_get hk
      rw [Nat.zero_add] at *
      rw [Int.zero_add]
      have hlen : (((List.range k).filter fun k => !(k == i)).map R).length < 1000000 := by
        rw [List.length_map]
        have := List.length_filter_le (fun k => !(k == i)) (List.range k)
        rw [List.length_range] at this; omega
      have stp := mb_gen (j := ((j : Nat) : Int)) (vNeN k i) (ix_matF false A rfl h2) (lt := ((List.range (n + 1)).take j).map (fun q => D.int (A k q))) (ld := ((List.range (n + 1)).drop (j + 1)).map fun q => D.int (A k q)) (by unfold mrow; rw [cut_take, List.map_take]) (by unfold mrow; rw [show ((j : Nat) : Int) + 1 = ((j + 1 : Nat) : Int) by omega, cut_drop, List.map_drop]) (fz_map (fun _ => rfl) _) (fz_map (fun _ => rfl) _) (by rw [List.length_map, List.length_map, List.length_take, List.length_drop, List.length_range]; omega) hlen
      refine ⟨_, _, rfl, .inl stp, some (.int (k : Nat)), ?_⟩
      rw [List.range_succ (n := k), List.filter_append, List.map_append]
      cases hp : !(k == i) with
      | true =>
        rw [List.filter_cons_of_pos (by simpa using hp), List.filter_nil, List.map_cons, List.map_nil]
        rfl
      | false =>
        rw [List.filter_cons_of_neg (by simpa using hp), List.filter_nil, List.map_nil, List.append_nil]
        rfl) ⟨none, rfl⟩
  rw [Nat.zero_add, length_rangeD] at e
  have fin : D.lst true (((List.range (n + 1)).filter fun k => !(k == i)).map R) = matF true n (mino A i j) := by
    rw [filter_sk n (by omega) i (by omega), List.map_map]
    show D.lst true _ = D.lst true _
    congr 1
    refine List.map_congr_left fun a _ => ?_
    show D.lst true (((List.range (n + 1)).take j).map (fun k => D.int (A (sk i a) k)) ++ ((List.range (n + 1)).drop (j + 1)).map fun k => D.int (A (sk i a) k)) = D.lst true (mrow n _)
    rw [← List.map_append, cut_sk n (by omega) j (by omega), List.map_map]
    rfl
  rw [fin] at e
  exact min_join (N := ((n + 1 : Nat) : Int)) (len_matF false (n + 1) A) (by omega) (by omega) (by omega) e
theorem floor_ok {t d : Int} (hd : d ≠ 0) (ht : t.natAbs ≤ 2 ^ 2000) (hd2 : d.natAbs ≤ 2 ^ 1000) : f__law_floor [.int (t.fdiv d), .int t, .int d] = .ok (.bl true) := by
  have key : ∀ t d : Int, 0 < d → t.natAbs ≤ 2 ^ 2000 → d.natAbs ≤ 2 ^ 1000 → L2.CMulW (t / d) d ∧ L2.CMulW (t / d + 1) d ∧ t / d * d ≤ t ∧ t < (t / d + 1) * d := fun t d h h1 h2 => by
    have q1 : (t / d).natAbs ≤ 2 ^ 2000 := Nat.le_trans (Int.natAbs_ediv_le_natAbs t d) h1
    have q2 : (t / d + 1).natAbs ≤ 2 ^ 2001 := by
      have := Int.natAbs_add_le (t / d) 1
      have e : (1 : Int).natAbs = 1 := rfl
      rw [e] at this
      have e2 : 2 ^ 2001 = 2 ^ 2000 + 2 ^ 2000 := by rw [show 2001 = 2000 + 1 by rfl, Nat.pow_succ]; omega
      have e3 : 1 ≤ 2 ^ 2000 := Nat.one_le_two_pow
      rw [e2]
      generalize 2 ^ 2000 = B at *
      omega
    have z := Int.mul_ediv_add_emod t d
    have z2 := Int.emod_nonneg t (show d ≠ 0 by omega)
    have z3 := Int.emod_lt_of_pos t h
    rw [Int.mul_comm] at z
    refine ⟨mulLe q1 h2 (by decide), mulLe q2 h2 (by decide), by omega, ?_⟩
    rw [Int.add_mul, Int.one_mul]; omega
  by_cases h : d < 0
  · have e : t.fdiv d = -t / -d := by
      rw [show t.fdiv d = (- -t).fdiv (- -d) by rw [Int.neg_neg, Int.neg_neg], Int.neg_fdiv_neg, Int.fdiv_eq_ediv_of_nonneg _ (by omega)]
    rw [e]
    obtain ⟨k1, k2, k3, k4⟩ := key (-t) (-d) (by omega) (by rw [Int.natAbs_neg]; exact ht) (by rw [Int.natAbs_neg]; exact hd2)
    have hh : decide (d < 0) = true := decide_eq_true h
    have v1 := vMul k1
    have v2 := vMul k2
    have w1 := decide_eq_true k3
    have w2 := decide_eq_true k4
    have wh : f__law_whole [.int (-t / -d)] = .ok (.bl true) := rfl
    clear key ht hd2 k1 k2 k3 k4 e
    generalize -t / -d = q at *
    generalize q * -d = q1 at *
    generalize (q + 1) * -d = q2 at *
    simp_arith [f__law_floor, m__law_floor, wh, hh, v1, v2, w1, w2]
  · have e : t.fdiv d = t / d := Int.fdiv_eq_ediv_of_nonneg _ (by omega)
    rw [e]
    obtain ⟨k1, k2, k3, k4⟩ := key t d (by omega) ht hd2
    have hh : decide (d < 0) = false := decide_eq_false h
    have v1 := vMul k1
    have v2 := vMul k2
    have w1 := decide_eq_true k3
    have w2 := decide_eq_true k4
    have wh : f__law_whole [.int (t / d)] = .ok (.bl true) := rfl
    clear key ht hd2 k1 k2 k3 k4 e
    generalize t / d = q at *
    generalize q * d = q1 at *
    generalize (q + 1) * d = q2 at *
    simp_arith [f__law_floor, m__law_floor, wh, hh, v1, v2, w1, w2]
theorem cell_ok (ns : List Int) (k : Int) (h : 0 ≤ k) : f__law_cell [.cst (ns.map D.int), .int k] = .ok (.int (ns.getD k.toNat 0)) := by
  obtain ⟨m, rfl⟩ : ∃ m : Nat, k = m := ⟨k.toNat, by omega⟩
  rw [Int.toNat_natCast]
  by_cases h : m < ns.length
  · have e1 : decide (((m : Nat) : Int) < ((ns.map D.int).length : Nat)) = true := decide_eq_true (by rw [List.length_map]; omega)
    have e2 : gIx (.cst (ns.map D.int)) (.int ((m : Nat) : Int)) = some (.int (ns.getD m 0)) := by
      rw [vIxC, List.getElem?_map, List.getElem?_eq_getElem h, List.getD_eq_getElem?_getD, List.getElem?_eq_getElem h]; rfl
    generalize ((m : Nat) : Int) = k at *
    generalize ns.map D.int = S at *
    simp_arith [f__law_cell, m__law_cell, e1, e2]
  · have e1 : decide (((m : Nat) : Int) < ((ns.map D.int).length : Nat)) = false := decide_eq_false (by rw [List.length_map]; omega)
    have e2 : ns.getD m 0 = 0 := by rw [List.getD_eq_getElem?_getD, List.getElem?_eq_none (by omega)]; rfl
    rw [e2]
    generalize ((m : Nat) : Int) = k at *
    generalize ns.map D.int = S at *
    simp_arith [f__law_cell, m__law_cell, e1]
theorem grid_ok (k : Int) : ∃ g : Int, f__law_grid [.int k] = .ok (.int g) ∧ 1 ≤ g ∧ g ≤ 1000000 := by
  simp_arith only [f__law_grid, m__law_grid]
  cases h0 : (k % 3 == 0) with
  | true => simp_arith only [x_seq]; exact ⟨_, rfl, by omega, by omega⟩
  | false =>
    simp_arith only [x_seq]
    cases h1 : (k % 3 == 1) with
    | true => simp_arith only [x_seq]; exact ⟨_, rfl, by omega, by omega⟩
    | false => simp_arith only [x_seq]; exact ⟨_, rfl, by omega, by omega⟩
theorem entry_ok (k : Int) : ∃ e : Int, f__law_entry [.int k] = .ok (.int e) ∧ e.natAbs ≤ 10 ^ 60 := by
  simp_arith only [f__law_entry, m__law_entry]
  cases h0 : (k % 3 == 0) with
  | true => simp_arith only [x_seq]; exact ⟨_, rfl, by omega⟩
  | false => simp_arith only [x_seq]; exact ⟨_, rfl, by omega⟩
theorem lc_mapx {α : Type} {own : List Nat} {g : D → Bn.Env → Option Bn.Env} {m : ME} (τ : Bn.Env) (f h : α → D) : ∀ (items : List α) (acc : List D), acc.length + items.length ≤ 1000000 → (∀ k ∈ items, ∃ τ1 τ3, g (f k) τ = some τ1 ∧ m τ1 = .ok (h k) τ3 ∧ wipeE τ3 own = τ) → lcL own g tTrue m (items.map f) acc τ = .ok (acc ++ items.map h) τ
  | [], acc, _, _ => by rw [List.map_nil, x_lc0, List.map_nil, List.append_nil]
  | k :: ks, acc, hl, hh => by
    obtain ⟨τ1, τ3, e1, e2, e3⟩ := hh k List.mem_cons_self
    rw [List.length_cons] at hl
    rw [List.map_cons, x_lc1, e1, x_lcG, x_tTrue, x_b1, if_pos rfl, e2, x_b1, if_pos (by omega), e3, lc_mapx τ f h ks (acc ++ [h k]) (by rw [List.length_append, List.length_cons, List.length_nil]; omega) fun k' hk => hh k' (List.mem_cons_of_mem _ hk), List.map_cons, List.append_assoc]
    rfl
theorem ok_mat (n : Nat) (A : Nat → Nat → Int) (b b' : Bool) : Ok 3 (.lst b ((List.range n).map fun a => .lst b' (mrow n (A a)))) := ok_lst fun d hd => by
  obtain ⟨a, _, rfl⟩ := List.mem_map.mp hd
  exact ok_lst fun d hd => by
    obtain ⟨k, _, rfl⟩ := List.mem_map.mp hd
    exact ok_int _
/-! the law, from the back -/
theorem sg_prt (n : Nat) (A : Nat → Nat → Int) (r c : Nat) : detF (n - 1) (mino A c r) * (1 - 2 * ((((r : Nat) : Int) + ((c : Nat) : Int)) % 2)) = prt n A r c := by
  unfold prt sgP
  by_cases h : (r + c) % 2 = 1
  · rw [if_pos h, show (((r : Nat) : Int) + ((c : Nat) : Int)) % 2 = 1 by omega]; omega
  · rw [if_neg h, show (((r : Nat) : Int) + ((c : Nat) : Int)) % 2 = 0 by omega]; omega
theorem l2_gen {S M Mn Mf F R : D} {n g r c dt pr wh q : Int} {fm fa ff : List D → CR} (hm : f__law_minor = fm) (ha : f__law_all_orders = fa) (hff : f__law_floor = ff) (z0 : isFz M = true) (z1 : freeze M = M) (e1 : fm [M, .int c, .int r] = .ok Mn) (e2 : freeze Mn = Mf) (b : Bool) {os : List D} (hos : freezeL os = os) (e3 : fa [Mf, .lst false os] = .ok (.int dt)) (v0 : gMul (.int 2) (.int ((r + c) % 2)) = some (.int (2 * ((r + c) % 2)))) (v1 : gMul (.int dt) (.int (1 - 2 * ((r + c) % 2))) = some (.int pr)) (i1 : gIx F (.int r) = some R) (i2 : gIx R (.int c) = some (.int q))
    (v2 : gMul (.int g) (.int g) = some (.int (g * g))) (v3 : gMul (.int (g * g)) (.int pr) = some (.int (g * g * pr))) (e4 : ff [.int q, .int (g * g * pr), .int wh] = .ok (.bl true)) (x5 x6 x7 H x13 : Option D) :
    l_law_2 [some S, some (.int n), some (.int g), some M, some (.int r), x5, x6, x7, H, some (.int wh), some F, some (.lst b os), some (.int c), x13] = .nx [some S, some (.int n), some (.int g), some M, some (.int r), x5, x6, x7, H, some (.int wh), some F, some (.lst false os), some (.int c), some (.int pr)] := by
  unfold l_law_2
  rw [hm, ha, hff]
  clear hm ha hff
  cases b with
  | true => simp_arith only [z0, z1, e1, e2, hos, e3, v0, v1, i1, i2, v2, v3, e4]
  | false => simp_arith only [z0, z1, e1, e2, hos, e3, v0, v1, i1, i2, v2, v3, e4]
theorem l2_ok {S : D} {n : Nat} (hn : n ≤ 4) {g : Int} (g1 : 1 ≤ g) (g2 : g ≤ 1000000) (A : Nat → Nat → Int) (hA : ∀ i j, (A i j).natAbs ≤ 2 ^ 210) (hz : detF n A ≠ 0) {r c : Nat} (hr : r < n) (hc : c < n) (b : Bool) (x5 x6 x7 H x13 : Option D) :
    ∃ y13, l_law_2 [some S, some (.int (n : Nat)), some (.int g), some (matF false n A), some (.int (r : Nat)), x5, x6, x7, H, some (.int (detF n A)), some (invD n (invF n A g)), some (.lst b ((ords (n - 1)).map ordD)), some (.int (c : Nat)), x13] = .nx [some S, some (.int (n : Nat)), some (.int g), some (matF false n A), some (.int (r : Nat)), x5, x6, x7, H, some (.int (detF n A)), some (invD n (invF n A g)), some (.lst false ((ords (n - 1)).map ordD)), some (.int (c : Nat)), some y13] := by
  obtain ⟨k, rfl⟩ : ∃ k, n = k + 1 := ⟨n - 1, by omega⟩
  have hm : ∀ i j, (mino A c r i j).natAbs ≤ 2 ^ 210 := fun i j => hA _ _
  have da := detF_abs (b := 210) k (by omega) (mino A c r) hm
  have dk : (detF k (mino A c r)).natAbs ≤ 2 ^ 848 := Nat.le_trans da (Nat.pow_le_pow_right (by decide) (by omega))
  have dw : (detF (k + 1) A).natAbs ≤ 2 ^ 1000 := Nat.le_trans (detF_abs (b := 210) (k + 1) hn A hA) (Nat.pow_le_pow_right (by decide) (by omega))
  have pa := prt_abs (b := 210) hn A hA r c
  have gb : g.natAbs ≤ 2 ^ 20 := by omega
  have gg : (g * g).natAbs ≤ 2 ^ 40 := by
    rw [Int.natAbs_mul, show 40 = 20 + 20 by rfl, Nat.pow_add]
    exact Nat.mul_le_mul gb gb
  have v1 := vMul (i := detF k (mino A c r)) (j := 1 - 2 * ((((r : Nat) : Int) + ((c : Nat) : Int)) % 2)) (mulLe (a := 848) (b := 2) dk (by omega) (by decide))
  have sp := sg_prt (k + 1) A r c
  rw [Nat.add_sub_cancel] at sp
  rw [sp] at v1
  have gp : (g * g * prt (k + 1) A r c).natAbs ≤ 2 ^ 2000 := by
    rw [Int.natAbs_mul]
    refine Nat.le_trans (Nat.mul_le_mul gg pa) ?_
    rw [← Nat.pow_add]
    exact Nat.pow_le_pow_right (by decide) (by decide)
  refine ⟨_, l2_gen rfl rfl rfl (isfz_matF _ _) (fr_matF false _ _) (minor_ok A (i := c) (j := r) (by omega) (by omega) (by omega)) (fr_matF true k _) b (fz_ordD _) (all_orders_ok (b := 210) (by decide) (by omega) (mino A c r) hm) (vMul (mulW 10 10 (by decide) (by omega) (by decide))) (by rw [all_det k (by omega)]; exact v1) (R := .lst false (mrow (k + 1) (invF (k + 1) A g r))) (vIxL_of rfl (by rw [List.getElem?_map, List.getElem?_range hr]; rfl)) (ix_mrow false _ rfl hc) (vMul (mulLe gb gb (by decide))) (vMul (mulLe gg pa (by decide))) (floor_ok hz gp dw) x5 x6 x7 H x13⟩
theorem l3_join {S M F : D} {OD : List D} {N g r wh : Int} {n : Nat} {b b' : Bool} {x5 x6 x7 H x12 x13 y12 y13 : Option D} (h0 : 0 ≤ N) (h1 : N < 1000000) (hN : N.toNat = n) {rr : List D} (i1 : gIx F (.int r) = some (.lst false rr)) (i2 : gLen [.lst false rr] = some (.int N)) (e : forL (gN 12) l_law_2 (rangeD 0 n) [some S, some (.int N), some (.int g), some M, some (.int r), x5, x6, x7, H, some (.int wh), some F, some (.lst b OD), x12, x13] = .nx [some S, some (.int N), some (.int g), some M, some (.int r), x5, x6, x7, H, some (.int wh), some F, some (.lst b' OD), y12, y13]) :
    l_law_3 [some S, some (.int N), some (.int g), some M, some (.int r), x5, x6, x7, H, some (.int wh), some F, some (.lst b OD), x12, x13] = .nx [some S, some (.int N), some (.int g), some M, some (.int r), x5, x6, x7, H, some (.int wh), some F, some (.lst b' OD), y12, y13] := by
  unfold l_law_3
  refine x_seq_ok (τ1 := [some S, some (.int N), some (.int g), some M, some (.int r), x5, x6, x7, H, some (.int wh), some F, some (.lst b OD), x12, x13]) ?_ ?_
  · have e1 : gNe (.int N) (.int N) = some (.bl false) := by rw [vNe, beq_self_eq_true]; rfl
    simp_arith only [i1, i2, e1]
  · rw [x_for_range (N := N) (n := n) (τ1 := [some S, some (.int N), some (.int g), some M, some (.int r), x5, x6, x7, H, some (.int wh), some F, some (.lst b OD), x12, x13]) (by simp_arith [x_seq]) h0 h1 hN]
    exact e
theorem u9_join {S M : D} {FL OD : List D} {N g wh : Int} {n : Nat} {b b' : Bool} {x4 x5 x6 x7 H y4 y12 y13 : Option D} (h0 : 0 ≤ N) (h1 : N < 1000000) (hN : N.toNat = n) (hz : (wh == 0) = false) (i2 : gLen [.lst true FL] = some (.int N)) (ho : f__law_orders [.int (N - 1)] = .ok (.lst b OD)) (e : forL (gN 4) l_law_3 (rangeD 0 n) [some S, some (.int N), some (.int g), some M, x4, x5, x6, x7, H, some (.int wh), some (.lst true FL), some (.lst b OD), none, none] = .nx [some S, some (.int N), some (.int g), some M, y4, x5, x6, x7, H, some (.int wh), some (.lst true FL), some (.lst b' OD), y12, y13]) :
    ∃ τ, u_law_9 [some S, some (.int N), some (.int g), some M, x4, x5, x6, x7, H, some (.int wh), some (.lst true FL), none, none, none] = .rt (.bl true) τ := by
  generalize hfo : f__law_orders = fo at *
  refine ⟨[some S, some (.int N), some (.int g), some M, y4, x5, x6, x7, H, some (.int wh), some (.lst true FL), some (.lst b' OD), y12, y13], ?_⟩
  have e1 : gNe (.int N) (.int N) = some (.bl false) := by rw [vNe, beq_self_eq_true]; rfl
  unfold u_law_9 u_law_10 u_law_11 u_law_12 u_law_13
  rw [hfo]
  refine x_seq_ok (τ1 := [some S, some (.int N), some (.int g), some M, x4, x5, x6, x7, H, some (.int wh), some (.lst true FL), none, none, none]) (by simp_arith only [hz]) ?_
  refine x_seq_ok (τ1 := [some S, some (.int N), some (.int g), some M, x4, x5, x6, x7, H, some (.int wh), some (.lst true FL), none, none, none]) (by simp_arith only [i2, e1]) ?_
  refine x_seq_ok (τ1 := [some S, some (.int N), some (.int g), some M, x4, x5, x6, x7, H, some (.int wh), some (.lst true FL), some (.lst b OD), none, none]) (by simp_arith only [ho]) ?_
  refine x_seq_ok (τ1 := [some S, some (.int N), some (.int g), some M, y4, x5, x6, x7, H, some (.int wh), some (.lst true FL), some (.lst b' OD), y12, y13]) ?_ (by simp_arith only [x_seq])
  rw [x_for_range (N := N) (n := n) (τ1 := [some S, some (.int N), some (.int g), some M, x4, x5, x6, x7, H, some (.int wh), some (.lst true FL), some (.lst b OD), none, none]) (by simp_arith [x_seq]) h0 h1 hN]
  exact e
theorem l3_ok {S : D} {n : Nat} (hn : n ≤ 4) {g : Int} (g1 : 1 ≤ g) (g2 : g ≤ 1000000) (A : Nat → Nat → Int) (hA : ∀ i j, (A i j).natAbs ≤ 2 ^ 210) (hz : detF n A ≠ 0) {r : Nat} (hr : r < n) (b : Bool) (x5 x6 x7 H x12 x13 : Option D) :
    ∃ b' y12 y13, l_law_3 [some S, some (.int (n : Nat)), some (.int g), some (matF false n A), some (.int (r : Nat)), x5, x6, x7, H, some (.int (detF n A)), some (invD n (invF n A g)), some (.lst b ((ords (n - 1)).map ordD)), x12, x13] = .nx [some S, some (.int (n : Nat)), some (.int g), some (matF false n A), some (.int (r : Nat)), x5, x6, x7, H, some (.int (detF n A)), some (invD n (invF n A g)), some (.lst b' ((ords (n - 1)).map ordD)), y12, y13] := by
  obtain ⟨τ', e, b', y12, y13, rfl⟩ := for_idx (g := gN 12) (b := l_law_2) (fun k τ => ∃ b y z, τ = [some S, some (.int (n : Nat)), some (.int g), some (matF false n A), some (.int (r : Nat)), x5, x6, x7, H, some (.int (detF n A)), some (invD n (invF n A g)), some (.lst b ((ords (n - 1)).map ordD)), y, z]) (rangeD 0 n) 0 [some S, some (.int (n : Nat)), some (.int g), some (matF false n A), some (.int (r : Nat)), x5, x6, x7, H, some (.int (detF n A)), some (invD n (invF n A g)), some (.lst b ((ords (n - 1)).map ordD)), x12, x13] (fun k d τ hk hI => by
    obtain ⟨b, y, z, rfl⟩ := hI
    obtain ⟨h2, rfl⟩ := rangeD_get hk
    rw [Int.zero_add]
    obtain ⟨y13, st⟩ := l2_ok (S := S) hn g1 g2 A hA hz hr h2 b x5 x6 x7 H z
    exact ⟨_, _, rfl, .inl st, false, some (.int (k : Nat)), some y13, rfl⟩) ⟨b, x12, x13, rfl⟩
  refine ⟨b', y12, y13, ?_⟩
  have i1 : gIx (invD n (invF n A g)) (.int (r : Nat)) = some (.lst false (mrow n (invF n A g r))) := vIxL_of rfl (by rw [List.getElem?_map, List.getElem?_range hr]; rfl)
  have i2 : gLen [.lst false (mrow n (invF n A g r))] = some (.int (n : Nat)) := by
    show some (D.int _) = _
    unfold mrow
    rw [List.length_map, List.length_range]
  exact l3_join (N := ((n : Nat) : Int)) (by omega) (by omega) (by omega) i1 i2 e
theorem u9_ok {S : D} {n : Nat} (h1 : 1 ≤ n) (hn : n ≤ 4) {g : Int} (g1 : 1 ≤ g) (g2 : g ≤ 1000000) (A : Nat → Nat → Int) (hA : ∀ i j, (A i j).natAbs ≤ 2 ^ 210) (x4 x5 x6 x7 H : Option D) :
    ∃ τ, u_law_9 [some S, some (.int (n : Nat)), some (.int g), some (matF false n A), x4, x5, x6, x7, H, some (.int (detF n A)), some (if detF n A = 0 then .non else invD n (invF n A g)), none, none, none] = .rt (.bl true) τ := by
  by_cases hz : detF n A = 0
  · rw [if_pos hz, hz]
    refine ⟨[some S, some (.int (n : Nat)), some (.int g), some (matF false n A), x4, x5, x6, x7, H, some (.int 0), some .non, none, none, none], ?_⟩
    unfold u_law_9
    generalize matF false n A = M at *
    simp_arith only [x_seq]
  · rw [if_neg hz]
    obtain ⟨b, ho⟩ := orders_ok (n := n - 1) (by omega)
    obtain ⟨τ', e, b', y4, y12, y13, rfl⟩ := for_idx (g := gN 4) (b := l_law_3) (fun k τ => ∃ b w y z, τ = [some S, some (.int (n : Nat)), some (.int g), some (matF false n A), w, x5, x6, x7, H, some (.int (detF n A)), some (invD n (invF n A g)), some (.lst b ((ords (n - 1)).map ordD)), y, z]) (rangeD 0 n) 0 [some S, some (.int (n : Nat)), some (.int g), some (matF false n A), x4, x5, x6, x7, H, some (.int (detF n A)), some (invD n (invF n A g)), some (.lst b ((ords (n - 1)).map ordD)), none, none] (fun k d τ hk hI => by
      obtain ⟨b, w, y, z, rfl⟩ := hI
      obtain ⟨h2, rfl⟩ := rangeD_get hk
      rw [Int.zero_add]
      obtain ⟨b', y12, y13, st⟩ := l3_ok (S := S) hn g1 g2 A hA hz h2 b x5 x6 x7 H y z
      exact ⟨_, _, rfl, .inl st, b', some (.int (k : Nat)), y12, y13, rfl⟩) ⟨b, x4, none, none, rfl⟩
    have i2 : gLen [invD n (invF n A g)] = some (.int (n : Nat)) := by
      show some (D.int _) = _
      rw [List.length_map, List.length_range]
    rw [show ((n - 1 : Nat) : Int) = ((n : Nat) : Int) - 1 by omega] at ho
    exact u9_join (N := ((n : Nat) : Int)) (by omega) (by omega) (by omega) (by simp [hz]) i2 ho e
def entF (k : Int) : Int := match f__law_entry [.int k] with | .ok (.int e) => e | _ => 0
theorem entF_ok (k : Int) : f__law_entry [.int k] = .ok (.int (entF k)) ∧ (entF k).natAbs ≤ 10 ^ 60 := by
  obtain ⟨e, h1, h2⟩ := entry_ok k
  have : entF k = e := by unfold entF; rw [h1]
  rw [this]
  exact ⟨h1, h2⟩
def mat0 (ns : List Int) (a k : Nat) : Int := entF (ns.getD (3 + 4 * a + k) 0)
def matL (n : Nat) (A : Nat → Nat → Int) (k : Nat) : List D := (List.range k).map fun a => .lst false (mrow n (A a))
theorem l1_el {S : D} {r k c e : Int} {fc fe : List D → CR} (hc : f__law_cell = fc) (he : f__law_entry = fe) (z0 : isFz S = true) (z1 : freeze S = S) (v : gMul (.int 4) (.int r) = some (.int (4 * r))) (h1 : fc [S, .int (3 + 4 * r + k)] = .ok (.int c)) (h2 : fe [.int c] = .ok (.int e)) (n g m : Option D) :
    eCall f__law_entry (aCons (eCall f__law_cell (aCons (eVar 0) (aCons (eZ (z2 gAdd (z2 gAdd (zC (.int 3)) (z2 gMul (zC (.int 4)) (zVar 4))) (zVar 5))) aNil))) aNil) [some S, n, g, m, some (.int r), some (.int k), none, none, none, none, none, none, none, none] = .ok (.int e) [some S, n, g, m, some (.int r), some (.int k), none, none, none, none, none, none, none, none] := by
  rw [hc, he]
  clear hc he
  simp_arith only [z0, z1, v, h1, h2]
theorem l1_join {S N g r : Option D} {acc : List D} {rr rf : D} (e : eLc [5] (iR1 (aCons (eVar 1) aNil)) (gN 5) tTrue (eCall f__law_entry (aCons (eCall f__law_cell (aCons (eVar 0) (aCons (eZ (z2 gAdd (z2 gAdd (zC (.int 3)) (z2 gMul (zC (.int 4)) (zVar 4))) (zVar 5))) aNil))) aNil)) [S, N, g, some (.lst true acc), r, none, none, none, none, none, none, none, none, none] = .ok rr [S, N, g, some (.lst true acc), r, none, none, none, none, none, none, none, none, none]) (f1 : freeze rr = rf) (hl : acc.length < 1000000) :
    l_law_1 [S, N, g, some (.lst true acc), r, none, none, none, none, none, none, none, none, none] = .nx [S, N, g, some (.lst true (acc ++ [rf])), r, none, none, none, none, none, none, none, none, none] := by
  unfold l_law_1
  generalize eLc [5] (iR1 (aCons (eVar 1) aNil)) (gN 5) tTrue (eCall f__law_entry (aCons (eCall f__law_cell (aCons (eVar 0) (aCons (eZ (z2 gAdd (z2 gAdd (zC (.int 3)) (z2 gMul (zC (.int 4)) (zVar 4))) (zVar 5))) aNil))) aNil)) = mm at *
  simp_arith [e, f1, hl]
theorem l1_ok (ns : List Int) {n : Nat} (hn : n ≤ 4) {r : Nat} (hr : r < n) (g : Option D) {acc : List D} (hl : acc.length < 1000) :
    l_law_1 [some (.cst (ns.map D.int)), some (.int (n : Nat)), g, some (.lst true acc), some (.int (r : Nat)), none, none, none, none, none, none, none, none, none] = .nx [some (.cst (ns.map D.int)), some (.int (n : Nat)), g, some (.lst true (acc ++ [.lst false (mrow n (mat0 ns r))])), some (.int (r : Nat)), none, none, none, none, none, none, none, none, none] := by
  have hr2 : iR1 (aCons (eVar 1) aNil) [some (.cst (ns.map D.int)), some (.int (n : Nat)), g, some (.lst true acc), some (.int (r : Nat)), none, none, none, none, none, none, none, none, none] = .ok (rangeD 0 n) [some (.cst (ns.map D.int)), some (.int (n : Nat)), g, some (.lst true acc), some (.int (r : Nat)), none, none, none, none, none, none, none, none, none] := by
    have : ∀ N : Int, aCons (eVar 1) aNil [some (.cst (ns.map D.int)), some (.int N), g, some (.lst true acc), some (.int (r : Nat)), none, none, none, none, none, none, none, none, none] = .ok [.int N] [some (.cst (ns.map D.int)), some (.int N), g, some (.lst true acc), some (.int (r : Nat)), none, none, none, none, none, none, none, none, none] := fun N => by simp_arith [x_seq]
    exact x_range (this _) (by omega) (by omega) (by omega)
  have cm : eLc [5] (iR1 (aCons (eVar 1) aNil)) (gN 5) tTrue (eCall f__law_entry (aCons (eCall f__law_cell (aCons (eVar 0) (aCons (eZ (z2 gAdd (z2 gAdd (zC (.int 3)) (z2 gMul (zC (.int 4)) (zVar 4))) (zVar 5))) aNil))) aNil)) [some (.cst (ns.map D.int)), some (.int (n : Nat)), g, some (.lst true acc), some (.int (r : Nat)), none, none, none, none, none, none, none, none, none] = .ok (.lst true (mrow n (mat0 ns r))) [some (.cst (ns.map D.int)), some (.int (n : Nat)), g, some (.lst true acc), some (.int (r : Nat)), none, none, none, none, none, none, none, none, none] := by
    rw [x_lc, hr2, x_b1, rangeD_map, x_w1, x_w0]
    show lcE (lcL _ _ _ _ _ _ [some (.cst (ns.map D.int)), some (.int (n : Nat)), g, some (.lst true acc), some (.int (r : Nat)), none, none, none, none, none, none, none, none, none]) = _
    rw [lc_mapx _ (fun (k : Nat) => D.int (k : Int)) (fun k => D.int (mat0 ns r k)) (List.range n) [] (by rw [List.length_nil, List.length_range]; omega) fun k hk => ⟨_, _, rfl, l1_el (r := ((r : Nat) : Int)) (k := ((k : Nat) : Int)) rfl rfl rfl rfl (vMul (mulW 10 10 (by decide) (by omega) (by decide))) (cell_ok ns _ (by omega)) (by
      have := (entF_ok (ns.getD (3 + 4 * r + k) 0)).1
      rw [show (3 + 4 * ((r : Nat) : Int) + ((k : Nat) : Int)).toNat = 3 + 4 * r + k by omega]
      exact this) _ _ _, rfl⟩]
    rfl
  have f1 : freeze (.lst true (mrow n (mat0 ns r))) = .lst false (mrow n (mat0 ns r)) := by rw [x_fr_lt, fz_mrow]
  exact l1_join cm f1 (by omega)
theorem u5_join {S M HM F : D} {L : List D} {N g wh : Int} {OD : List D} {b : Bool} {x4 x6 x7 : Option D} (z0 : isFz M = true) (z1 : freeze M = M) (h1 : freeze HM = M) (h2 : isFz HM = false)
    (cm : eLc [4] (iL (eVar 3)) (gN 4) tTrue (eLstOf (aCons (eVar 4) aNil)) [some S, some (.int N), some (.int g), some (.lst true L), x4, none, x6, x7, none, none, none, none, none, none] = .ok HM [some S, some (.int N), some (.int g), some M, none, none, x6, x7, none, none, none, none, none, none])
    {fd fi fo fa fw : List D → CR} (qd : f_determinant = fd) (qi : f_inverse = fi) (qo : f__law_orders = fo) (qa : f__law_all_orders = fa) (qw : f__law_whole = fw) (ed : fd [M] = .ok (.int wh)) (ei : fi [M, .int g] = .ok F) (eo : fo [.int N] = .ok (.lst b OD)) (fo1 : freezeL OD = OD) (ea : fa [M, .lst false OD] = .ok (.int wh)) (ew : fw [.int wh] = .ok (.bl true)) (hne : gNe M M = some (.bl false))
    (e : ∃ τ, u_law_9 [some S, some (.int N), some (.int g), some M, none, none, x6, x7, some M, some (.int wh), some F, none, none, none] = .rt (.bl true) τ) :
    ∃ τ, u_law_5 [some S, some (.int N), some (.int g), some (.lst true L), x4, none, x6, x7, none, none, none, none, none, none] = .rt (.bl true) τ := by
  obtain ⟨τ', e⟩ := e
  refine ⟨τ', ?_⟩
  have e1 : gNe (.int wh) (.int wh) = some (.bl false) := by rw [vNe, beq_self_eq_true]; rfl
  unfold u_law_5 u_law_6 u_law_7 u_law_8
  rw [qd, qi, qo, qa, qw]
  clear qd qi qo qa qw
  generalize u_law_9 = u9 at *
  refine x_seq_ok (x_asg_ok cm rfl) ?_
  have c : freeze (.lst false OD) = .lst false OD := rfl
  cases b with
  | true => simp_arith only [h1, h2, z0, z1, ed, ei, eo, fo1, ea, ew, e1, hne, e]
  | false => simp_arith only [h1, h2, z0, z1, ed, ei, eo, fo1, ea, ew, e1, hne, e]
theorem u5_ok {S : D} {n : Nat} (h1 : 1 ≤ n) (hn : n ≤ 4) {g : Int} (g1 : 1 ≤ g) (g2 : g ≤ 1000000) (A : Nat → Nat → Int) (hA : ∀ i j, (A i j).natAbs ≤ 2 ^ 210) {L : List D} (hL : freezeL L = matL n A n) (x4 x6 x7 : Option D) :
    ∃ τ, u_law_5 [some S, some (.int (n : Nat)), some (.int g), some (.lst true L), x4, none, x6, x7, none, none, none, none, none, none] = .rt (.bl true) τ := by
  obtain ⟨b, eo⟩ := orders_ok (n := n) hn
  have ea := all_orders_ok (b := 210) (by decide) hn A hA
  rw [all_det n hn] at ea
  have gb : g.natAbs ≤ 2 ^ 60 := by omega
  refine u5_join (HM := matF true n A) (M := matF false n A) rfl (fr_matF false n A) (fr_matF true n A) rfl ?_ rfl rfl rfl rfl rfl (fdet_ok (b := 210) (by decide) hn A hA) (inverse_ok (b := 210) (by decide) hn A hA gb) eo (fz_ordD _) ea rfl (vNeX (ok_mat n A false false) (ok_mat n A false false) rfl) (u9_ok h1 hn g1 g2 A hA none none x6 x7 (some (matF false n A)))
  have ei : ∀ N : D, iL (eVar 3) [some S, some N, some (.int g), some (.lst true L), x4, none, x6, x7, none, none, none, none, none, none] = .ok (matL n A n) [some S, some N, some (.int g), some (.lst false (matL n A n)), x4, none, x6, x7, none, none, none, none, none, none] := fun N => by
    simp_arith [hL]
  rw [x_lc, ei, x_b1, x_w1, x_w0]
  show lcE (lcL _ _ _ _ (matL n A n) _ [some S, some (.int (n : Nat)), some (.int g), some (.lst false (matL n A n)), none, none, x6, x7, none, none, none, none, none, none]) = _
  have cm := lc_mapx (own := [4]) (g := gN 4) (m := eLstOf (aCons (eVar 4) aNil)) [some S, some (.int (n : Nat)), some (.int g), some (.lst false (matL n A n)), none, none, x6, x7, none, none, none, none, none, none] (fun a => D.lst false (mrow n (A a))) (fun a => D.lst true (mrow n (A a))) (List.range n) [] (by rw [List.length_nil, List.length_range]; omega) (fun k hk => ⟨_, _, rfl, rfl, rfl⟩)
  exact (congrArg lcE cm).trans rfl
theorem b210 {e : Int} (h : e.natAbs ≤ 3 * 10 ^ 60) : e.natAbs ≤ 2 ^ 210 := Nat.le_trans h (by decide)
/-- the row that is three times another one -/
def mat1 (A : Nat → Nat → Int) (t s : Nat) : Nat → Nat → Int := fun a k => if a = t then 3 * A s k else A a k
theorem trip_el {e : Int} (he : e.natAbs ≤ 10 ^ 60) (a b c d f h i : Option D) (r : List (Option D)) : eZ (z2 gMul (zC (.int 3)) (zVar 7)) (a :: b :: c :: d :: f :: h :: i :: some (.int e) :: r) = .ok (.int (3 * e)) (a :: b :: c :: d :: f :: h :: i :: some (.int e) :: r) := by
  have v : gMul (.int 3) (.int e) = some (.int (3 * e)) := vMul (mulW 10 300 (by decide) (Nat.lt_of_le_of_lt he (by decide)) (by decide))
  simp_arith [v]
theorem u4_gen {S : D} {L L2 rr : List D} {x4 : Option D} {n g c : Int} {fc : List D → CR} (qc : f__law_cell = fc) (z0 : isFz S = true) (z1 : freeze S = S) (ec : fc [S, .int 2] = .ok (.int c)) (h4 : (c % 4 == 1) = true) (hn : decide (1 < n) = true) (n0 : 0 < n) (n1 : n ≤ 4) (ix : gIx (.lst true L) (.int ((c / 4 % n + 1) % n)) = some (.lst false rr))
    (cm : lcL [7] (gN 7) tTrue (eZ (z2 gMul (zC (.int 3)) (zVar 7))) rr [] [some S, some (.int n), some (.int g), some (.lst true L), x4, none, some (.int (c / 4 % n)), none, none, none, none, none, none, none] = .ok L2 [some S, some (.int n), some (.int g), some (.lst true L), x4, none, some (.int (c / 4 % n)), none, none, none, none, none, none, none]) {L3 : List D} (hs : setD L (c / 4 % n) (.lst true L2) = some L3)
    (h5 : ∃ τ, u_law_5 [some S, some (.int n), some (.int g), some (.lst true L3), x4, none, some (.int (c / 4 % n)), none, none, none, none, none, none, none] = .rt (.bl true) τ) :
    ∃ τ, u_law_4 [some S, some (.int n), some (.int g), some (.lst true L), x4, none, none, none, none, none, none, none, none, none] = .rt (.bl true) τ := by
  obtain ⟨τ, h5⟩ := h5
  refine ⟨τ, ?_⟩
  unfold u_law_4
  rw [qc]
  clear qc
  generalize u_law_5 = u5 at *
  have d1 : gMod (.int (c / 4)) (.int n) = some (.int (c / 4 % n)) := vMod n0
  have d2 : gMod (.int (c / 4 % n + 1)) (.int n) = some (.int ((c / 4 % n + 1) % n)) := vMod n0
  generalize c / 4 % n = t at *
  simp_arith only [z0, z1, ec, h4, hn, d1, d2, ix, cm, hs, h5]
theorem u4_no {S : D} {L : List D} {x4 : Option D} {n g c : Int} {fc : List D → CR} (qc : f__law_cell = fc) (z0 : isFz S = true) (z1 : freeze S = S) (ec : fc [S, .int 2] = .ok (.int c)) (h4 : (c % 4 == 1) = false ∨ decide (1 < n) = false)
    (h5 : ∃ τ, u_law_5 [some S, some (.int n), some (.int g), some (.lst true L), x4, none, none, none, none, none, none, none, none, none] = .rt (.bl true) τ) :
    ∃ τ, u_law_4 [some S, some (.int n), some (.int g), some (.lst true L), x4, none, none, none, none, none, none, none, none, none] = .rt (.bl true) τ := by
  obtain ⟨τ, h5⟩ := h5
  refine ⟨τ, ?_⟩
  unfold u_law_4
  rw [qc]
  clear qc
  generalize u_law_5 = u5 at *
  cases q : (c % 4 == 1) with
  | false => simp_arith only [z0, z1, ec, q, h5]
  | true =>
    rcases h4 with h | h
    · rw [q] at h; cases h
    · simp_arith only [z0, z1, ec, q, h, h5]
theorem mat0_abs (ns : List Int) (i j : Nat) : (mat0 ns i j).natAbs ≤ 10 ^ 60 := (entF_ok _).2
theorem u4_ok (ns : List Int) {n : Nat} (h1 : 1 ≤ n) (hn : n ≤ 4) {g : Int} (g1 : 1 ≤ g) (g2 : g ≤ 1000000) (x4 : Option D) :
    ∃ τ, u_law_4 [some (.cst (ns.map D.int)), some (.int (n : Nat)), some (.int g), some (.lst true (matL n (mat0 ns) n)), x4, none, none, none, none, none, none, none, none, none] = .rt (.bl true) τ := by
  have fL : ∀ A : Nat → Nat → Int, freezeL (matL n A n) = matL n A n := fun A => fz_map (fun _ => rfl) _
  have ec := cell_ok ns 2 (by decide)
  have hA := mat0_abs ns
  generalize mat0 ns = A at *
  generalize ns.getD (2 : Int).toNat 0 = c at *
  generalize ns.map D.int = S at *
  have small : ∀ i j, (A i j).natAbs ≤ 2 ^ 210 := fun i j => b210 (Nat.le_trans (hA i j) (by decide))
  by_cases h : (c % 4 == 1) = true ∧ 1 < n
  · have t0 : 0 ≤ c / 4 % ((n : Nat) : Int) := Int.emod_nonneg _ (by omega)
    have t1 : c / 4 % ((n : Nat) : Int) < n := Int.emod_lt_of_pos _ (by omega)
    have s0 : 0 ≤ (c / 4 % ((n : Nat) : Int) + 1) % ((n : Nat) : Int) := Int.emod_nonneg _ (by omega)
    have s1 : (c / 4 % ((n : Nat) : Int) + 1) % ((n : Nat) : Int) < n := Int.emod_lt_of_pos _ (by omega)
    obtain ⟨t, ht⟩ : ∃ t : Nat, c / 4 % ((n : Nat) : Int) = t := ⟨(c / 4 % ((n : Nat) : Int)).toNat, by omega⟩
    obtain ⟨s, hs⟩ : ∃ s : Nat, (c / 4 % ((n : Nat) : Int) + 1) % ((n : Nat) : Int) = s := ⟨((c / 4 % ((n : Nat) : Int) + 1) % ((n : Nat) : Int)).toNat, by omega⟩
    refine u4_gen (c := c) (L2 := mrow n fun k => 3 * A s k) (rr := mrow n (A s)) (L3 := (matL n A n).set t (.lst true (mrow n fun k => 3 * A s k))) rfl rfl rfl ec h.1 (decide_eq_true (by omega)) (by omega) (by omega) ?_ ?_ ?_ ?_
    · exact vIxL_of (k := s) hs (by unfold matL; rw [List.getElem?_map, List.getElem?_range (by omega)]; rfl)
    · unfold mrow
      rw [lc_mapx _ (fun k => D.int (A s k)) (fun k => D.int (3 * A s k)) (List.range n) [] (by rw [List.length_nil, List.length_range]; omega) fun k hk => ⟨_, _, rfl, trip_el (hA s k) _ _ _ _ _ _ _ _, rfl⟩]
      rfl
    · exact vSetD (j := t) ht (by unfold matL; rw [List.length_map, List.length_range]; omega)
    · refine u5_ok h1 hn g1 g2 (mat1 A t s) (fun i j => ?_) ?_ _ _ _
      · unfold mat1
        split
        · refine b210 ?_
          rw [Int.natAbs_mul]
          exact Nat.mul_le_mul_left 3 (hA s j)
        · exact small i j
      · have fz : ∀ (l : List D) (k : Nat) (d : D), freezeL (l.set k d) = (freezeL l).set k (freeze d) := fun l => by
          induction l with
          | nil => intro k d; rfl
          | cons x l ih =>
            intro k d
            cases k with
            | zero => rfl
            | succ k => rw [List.set_cons_succ, x_fL1, ih, x_fL1, List.set_cons_succ]
        rw [fz, fL, x_fr_lt, fz_mrow]
        refine List.ext_getElem? fun k => ?_
        rw [List.getElem?_set]
        unfold matL
        rw [List.length_map, List.length_range, List.getElem?_map, List.getElem?_map]
        by_cases hk : k < n
        · rw [List.getElem?_range hk]
          by_cases e : t = k
          · subst e
            rw [if_pos rfl, if_pos (by omega)]
            show _ = some (D.lst false (mrow n (mat1 A t s t)))
            congr 3
            funext j
            unfold mat1
            rw [if_pos rfl]
          · rw [if_neg e]
            show some (D.lst false (mrow n (A k))) = some (D.lst false (mrow n (mat1 A t s k)))
            congr 3
            funext j
            unfold mat1
            rw [if_neg (fun q => e q.symm)]
        · rw [List.getElem?_eq_none (by rw [List.length_range]; omega), if_neg (by omega)]
          rfl
  · refine u4_no (c := c) rfl rfl rfl ec ?_ (u5_ok h1 hn g1 g2 A small (fL A) _ _ _)
    by_cases q : (c % 4 == 1) = true
    · exact .inr (decide_eq_false fun z => h ⟨q, by omega⟩)
    · exact .inl (by simpa using q)
theorem law_join {S : D} {n : Nat} {N g c0 c1 : Int} {M : D} {y4 : Option D} {fc fg : List D → CR} (qc : f__law_cell = fc) (qg : f__law_grid = fg) (z0 : isFz S = true) (z1 : freeze S = S) (e0 : fc [S, .int 0] = .ok (.int c0)) (e1 : fc [S, .int 1] = .ok (.int c1)) (eg : fg [.int c1] = .ok (.int g)) (hN : N = 1 + c0 % 4) (h0 : 0 ≤ N) (h1 : N < 1000000) (hn : N.toNat = n)
    (e : forL (gN 4) l_law_1 (rangeD 0 n) [some S, some (.int N), some (.int g), some (.lst true []), none, none, none, none, none, none, none, none, none, none] = .nx [some S, some (.int N), some (.int g), some M, y4, none, none, none, none, none, none, none, none, none])
    (h4 : ∃ τ, u_law_4 [some S, some (.int N), some (.int g), some M, y4, none, none, none, none, none, none, none, none, none] = .rt (.bl true) τ) : f_law [S] = .ok (.bl true) := by
  obtain ⟨τ, h4⟩ := h4
  have e3 : u_law_3 [some S, some (.int N), some (.int g), some (.lst true []), none, none, none, none, none, none, none, none, none, none] = .rt (.bl true) τ := by
    unfold u_law_3
    refine x_seq_ok ?_ h4
    rw [x_for_range (N := N) (n := n) (τ1 := [some S, some (.int N), some (.int g), some (.lst true []), none, none, none, none, none, none, none, none, none, none]) (by simp_arith [x_seq]) h0 h1 hn]
    exact e
  have em : m_law [some S, none, none, none, none, none, none, none, none, none, none, none, none, none] = .rt (.bl true) τ := by
    unfold m_law u_law_1 u_law_2
    rw [qc, qg]
    clear qc qg
    generalize u_law_3 = u3 at *
    subst hN
    simp_arith only [z0, z1, e0, e1, eg, e3]
  unfold f_law
  rw [cF_ok (n := 1) (N := 14) rfl rfl em]
  rfl
theorem law_true (ns : List Int) (h : ns.length ≤ 63) : f_law [.cst (ns.map D.int)] = .ok (.bl true) := by
  have e0 := cell_ok ns 0 (by decide)
  have e1 := cell_ok ns 1 (by decide)
  obtain ⟨g, eg, g1, g2⟩ := grid_ok (ns.getD (1 : Int).toNat 0)
  obtain ⟨n, hn⟩ : ∃ n : Nat, 1 + ns.getD (0 : Int).toNat 0 % 4 = n := ⟨(1 + ns.getD (0 : Int).toNat 0 % 4).toNat, by omega⟩
  have n1 : 1 ≤ n := by omega
  have n4 : n ≤ 4 := by omega
  obtain ⟨τ', e, y4, rfl⟩ := for_idx (g := gN 4) (b := l_law_1) (fun k τ => ∃ y, τ = [some (.cst (ns.map D.int)), some (.int (n : Nat)), some (.int g), some (.lst true (matL n (mat0 ns) k)), y, none, none, none, none, none, none, none, none, none]) (rangeD 0 n) 0 [some (.cst (ns.map D.int)), some (.int (n : Nat)), some (.int g), some (.lst true []), none, none, none, none, none, none, none, none, none, none] (fun k d τ hk hI => by
    obtain ⟨y, rfl⟩ := hI
    obtain ⟨h2, rfl⟩ := rangeD_get hk
    rw [Nat.zero_add, Int.zero_add]
    have st := l1_ok ns n4 h2 (some (.int g)) (acc := matL n (mat0 ns) k) (by unfold matL; rw [List.length_map, List.length_range]; omega)
    refine ⟨_, _, rfl, .inl st, some (.int (k : Nat)), ?_⟩
    unfold matL
    rw [List.range_succ, List.map_append]
    rfl) ⟨none, rfl⟩
  rw [Nat.zero_add, length_rangeD] at e
  exact law_join rfl rfl rfl rfl e0 e1 eg hn.symm (by omega) (by omega) (by omega) e (u4_ok ns n1 n4 g1 g2 y4)

end Lw

namespace Lw
open PySem PySem.Spec PyProof.Rows L2 Bn
/-! ### what the top has written -/
structure Tx (K : PySem.W.Frag) (mg : Str → Option Value) (ca : Str → Addr) : Prop where
  bool_ : mg "bool" = none
  int_ : mg "int" = none
  isinstance : mg "isinstance" = none
  len_ : mg "len" = none
  list_ : mg "list" = none
  range : mg "range" = none
section
variable {P : Program} {w : World} {K : PySem.W.Frag} {mg : Str → Option Value} {base : Heap} {ca : Str → Addr}
theorem ok__law_grid (T : Tx K mg ca)  {f : Addr} {fd : FuncData} (F : Fun K "_law_grid" "_law_grid" s__law_grid f fd) : FnOk P w K mg base (L2.CX P w) 1 f fd ["_law_cell_here"] (spP K ca f__law_grid) :=
  fn_ok F sc__law_grid fun cdv A outer s H E F0 R hr c => (s_cons (s_if (t_cmpZ (op_eqD hr.units) sEq (z_op op_mod sMod (z_var (pv 0)) z_int) z_int) (s_one (s_ret (e_z (z_op op_add sAdd z_int (z_op op_mod sMod (z_op op_fdivW sDiv (z_var (pv 0)) z_int) z_int))))) s_nil)
    (s_cons (s_if (t_cmpZ (op_eqD hr.units) sEq (z_op op_mod sMod (z_var (pv 0)) z_int) z_int) (s_one (s_ret (e_z (z_op op_add sAdd z_int (z_op op_mod sMod (z_op op_fdivW sDiv (z_var (pv 0)) z_int) z_int))))) s_nil)
    (s_one (s_ret (e_z z_int)))))
theorem ok_without (T : Tx K mg ca)  {f : Addr} {fd : FuncData} (F : Fun K "without" "without" s_without f fd) : FnOk P w K mg base (L2.CX P w) 1 f fd ["matrix", "row", "column"] (spP K ca f_without) :=
  fn_ok F sc_without fun cdv A outer s H E F0 R hr c => (s_cons (s_set (i := 3) sc_without.nd rfl (.inl rfl) (e_lst a_nil))
    (s_cons (s_for c (i_range1 (by rfl) T.range (a_cons (e_z (z_callB call_len sLen (by rfl) T.len_ (by decide +kernel) (za_cons (z_var (pv 0)) za_nil))) a_nil)) (g_name (i := 4) sc_without.nd rfl (.inr rfl)) (s_one (s_if (t_cmpZ (op_neD hr.units) sNe (z_var (pv 4)) (z_var (pv 1))) (s_one (s_app (pv 3) (e_lc (own := [("k", 5)]) c sc_without.nd (i_range1 (by rfl) T.range (a_cons (e_z (z_callB call_len sLen (by rfl) T.len_ (by decide +kernel) (za_cons (z_var (pv 0)) za_nil))) a_nil)) (blkOk_by (own := [("k", 5)]) (N := ["matrix", "row", "column", "left", "at", "k"]) (sc := defScope s_without) (by decide +kernel)) (fun _ _ _ _ _ => (g_name (i := 5) sc_without.nd rfl (.inl rfl))) (fun _ _ _ _ _ => (ts_one (t_cmpZ (op_neD hr.units) sNe (z_var (pv 5)) (z_var (pv 2))))) (fun _ _ _ _ _ c => (e_z (z_ix ix_seq sIx (z_ix ix_seq sIx (z_var (pv 0)) (z_var (pv 4))) (z_var (pv 5)))))))) s_nil)))
    (s_one (s_ret (e_mv (pv 3))))))
theorem ok_determinant (T : Tx K mg ca) {lr : Nat} {r_determinant : List D → CR} (G_determinant : Fo P w K mg base ca lr "determinant" r_determinant) (G_without : Fo P w K mg base ca 1 "without" f_without) {f : Addr} {fd : FuncData} (F : Fun K "determinant" "determinant" s_determinant f fd) : FnOk P w K mg base (L2.CX P w) (lr + 1 + 1) f fd ["matrix"] (spP K ca (callF 1 5 (m_determinant r_determinant))) :=
  fn_ok F sc_determinant fun cdv A outer s H E F0 R hr c => (s_cons (s_if (t_cmpZ (op_eqD hr.units) sEq (z_callB call_len sLen (by rfl) T.len_ (by decide +kernel) (za_cons (z_var (pv 0)) za_nil)) z_int) (s_one (s_ret (e_z z_int))) s_nil)
    (s_cons (s_set (i := 1) sc_determinant.nd rfl (.inl rfl) (e_z z_int))
    (s_cons (s_set (i := 2) sc_determinant.nd rfl (.inl rfl) (e_z z_int))
    (s_cons (s_for c (i_range1 (by rfl) T.range (a_cons (e_z (z_callB call_len sLen (by rfl) T.len_ (by decide +kernel) (za_cons (z_var (pv 0)) za_nil))) a_nil)) (g_name (i := 3) sc_determinant.nd rfl (.inl rfl)) (s_cons (s_set (i := 4) sc_determinant.nd rfl (.inl rfl) (e_z (z_ix ix_seq sIx (z_ix ix_seq sIx (z_var (pv 0)) z_int) (z_var (pv 3)))))
    (s_cons (s_if (t_cmpZ (op_neD hr.units) sNe (z_var (pv 4)) z_int) (s_one (s_set (i := 1) sc_determinant.nd rfl (.inl rfl) (e_op op_add sAdd (e_var (pv 1)) (e_op op_mulW sMul (e_z (z_op op_mulW sMul (z_var (pv 2)) (z_var (pv 4)))) (e_call c G_determinant hr (by rfl) (a_cons (e_call c G_without hr (by rfl) (a_cons (e_var (pv 0)) (a_cons (e_z z_int) (a_cons (e_var (pv 3)) a_nil))) (hk := by omega)) a_nil) (hk := by omega)))))) s_nil)
    (s_one (s_set (i := 2) sc_determinant.nd rfl (.inl rfl) (e_z (z_un un_neg sNeg (z_var (pv 2)))))))))
    (s_one (s_ret (e_mv (pv 1))))))))
theorem ok_inverse (T : Tx K mg ca) (G_determinant : Fo P w K mg base ca 12 "determinant" f_determinant) (G_without : Fo P w K mg base ca 1 "without" f_without) {f : Addr} {fd : FuncData} (F : Fun K "inverse" "inverse" s_inverse f fd) : FnOk P w K mg base (L2.CX P w) 13 f fd ["matrix", "grid"] (spP K ca f_inverse) :=
  fn_ok F sc_inverse fun cdv A outer s H E F0 R hr c => (s_cons (s_set (i := 2) sc_inverse.nd rfl (.inl rfl) (e_call c G_determinant hr (by rfl) (a_cons (e_var (pv 0)) a_nil)))
    (s_cons (s_if (t_cmpZ (op_eqD hr.units) sEq (z_var (pv 2)) z_int) (s_one (s_ret (e_z z_non))) s_nil)
    (s_cons (s_set (i := 3) sc_inverse.nd rfl (.inl rfl) (e_lst a_nil))
    (s_cons (s_for c (i_range1 (by rfl) T.range (a_cons (e_z (z_callB call_len sLen (by rfl) T.len_ (by decide +kernel) (za_cons (z_var (pv 0)) za_nil))) a_nil)) (g_name (i := 4) sc_inverse.nd rfl (.inl rfl)) (s_cons (s_set (i := 5) sc_inverse.nd rfl (.inl rfl) (e_lst a_nil))
    (s_cons (s_for c (i_range1 (by rfl) T.range (a_cons (e_z (z_callB call_len sLen (by rfl) T.len_ (by decide +kernel) (za_cons (z_var (pv 0)) za_nil))) a_nil)) (g_name (i := 6) sc_inverse.nd rfl (.inl rfl)) (s_cons (s_set (i := 7) sc_inverse.nd rfl (.inl rfl) (e_call c G_determinant hr (by rfl) (a_cons (e_call c G_without hr (by rfl) (a_cons (e_var (pv 0)) (a_cons (e_var (pv 6)) (a_cons (e_var (pv 4)) a_nil)))) a_nil)))
    (s_cons (s_if (t_cmpZ (op_eqD hr.units) sEq (z_op op_mod sMod (z_op op_add sAdd (z_var (pv 4)) (z_var (pv 6))) z_int) z_int) (s_one (s_set (i := 7) sc_inverse.nd rfl (.inl rfl) (e_z (z_un un_neg sNeg (z_var (pv 7)))))) s_nil)
    (s_one (s_app (pv 5) (e_z (z_op op_fdivX sDivX (z_op op_mulW sMul (z_op op_mulW sMul (z_var (pv 1)) (z_var (pv 1))) (z_var (pv 7))) (z_var (pv 2)))))))))
    (s_one (s_app (pv 3) (e_var (pv 5)))))))
    (s_one (s_ret (e_mv (pv 3))))))))
theorem ok__law_orders (T : Tx K mg ca)  {f : Addr} {fd : FuncData} (F : Fun K "_law_orders" "_law_orders" s__law_orders f fd) : FnOk P w K mg base (L2.CX P w) 1 f fd ["_law_size"] (spP K ca f__law_orders) :=
  fn_ok F sc__law_orders fun cdv A outer s H E F0 R hr c => (s_cons (s_set (i := 1) sc__law_orders.nd rfl (.inl rfl) (e_lst (a_cons (e_tup (a_cons (e_lst a_nil) (a_cons (e_z z_int) a_nil))) a_nil)))
    (s_cons (s_for c (i_range1 (by rfl) T.range (a_cons (e_var (pv 0)) a_nil)) (g_name (i := 2) sc__law_orders.nd rfl (.inl rfl)) (s_cons (s_set (i := 3) sc__law_orders.nd rfl (.inl rfl) (e_lst a_nil))
    (s_cons (s_for c (i_list (e_var (pv 1))) (g_tup c.calm (gs_cons (g_name (i := 4) sc__law_orders.nd rfl (.inl rfl)) (gs_cons (g_name (i := 5) sc__law_orders.nd rfl (.inl rfl)) gs_nil))) (s_one (s_for c (i_range1 (by rfl) T.range (a_cons (e_z (z_op op_add sAdd (z_var (pv 2)) z_int)) a_nil)) (g_name (i := 6) sc__law_orders.nd rfl (.inl rfl)) (s_one (s_app (pv 3) (e_tup (a_cons (e_cat (e_cat (e_sliceL (e_var (pv 4)) pe_none (pe_some (e_var (pv 6)))) (e_lst (a_cons (e_var (pv 2)) a_nil))) (e_sliceL (e_var (pv 4)) (pe_some (e_var (pv 6))) pe_none)) (a_cons (e_z (z_op op_mulW sMul (z_var (pv 5)) (z_op op_sub sSub z_int (z_op op_mulW sMul z_int (z_op op_mod sMod (z_op op_sub sSub (z_var (pv 2)) (z_var (pv 6))) z_int))))) a_nil))))))))
    (s_one (s_set (i := 1) sc__law_orders.nd rfl (.inl rfl) (e_var (pv 3)))))))
    (s_one (s_ret (e_mv (pv 1))))))
theorem ok__law_cell (T : Tx K mg ca)  {f : Addr} {fd : FuncData} (F : Fun K "_law_cell" "_law_cell" s__law_cell f fd) : FnOk P w K mg base (L2.CX P w) 1 f fd ["_law_script", "_law_k"] (spP K ca f__law_cell) :=
  fn_ok F sc__law_cell fun cdv A outer s H E F0 R hr c => (s_cons (s_if (t_cmpZ op_lt sLt (z_var (pv 1)) (z_callB call_len sLen (by rfl) T.len_ (by decide +kernel) (za_cons (z_var (pv 0)) za_nil))) (s_one (s_ret (e_z (z_ix ix_seq sIx (z_var (pv 0)) (z_var (pv 1)))))) s_nil)
    (s_one (s_ret (e_z z_int))))
theorem ok__law_whole (T : Tx K mg ca)  {f : Addr} {fd : FuncData} (F : Fun K "_law_whole" "_law_whole" s__law_whole f fd) : FnOk P w K mg base (L2.CX P w) 1 f fd ["_law_found"] (spP K ca f__law_whole) :=
  fn_ok F sc__law_whole fun cdv A outer s H E F0 R hr c => (s_one (s_ret (e_and (e_z (z_callB call_isi sIsi (by rfl) T.isinstance (by decide +kernel) (za_cons (z_var (pv 0)) (za_cons (z_ty (by rfl) T.int_ (by decide +kernel)) za_nil)))) (e_one (e_not (e_z (z_callB call_isi sIsi (by rfl) T.isinstance (by decide +kernel) (za_cons (z_var (pv 0)) (za_cons (z_ty (by rfl) T.bool_ (by decide +kernel)) za_nil)))))))))
theorem ok__law_all_orders (T : Tx K mg ca)  {f : Addr} {fd : FuncData} (F : Fun K "_law_all_orders" "_law_all_orders" s__law_all_orders f fd) : FnOk P w K mg base (L2.CX P w) 1 f fd ["_law_matrix", "_law_orders_here"] (spP K ca f__law_all_orders) :=
  fn_ok F sc__law_all_orders fun cdv A outer s H E F0 R hr c => (s_cons (s_set (i := 2) sc__law_all_orders.nd rfl (.inl rfl) (e_z z_int))
    (s_cons (s_for c (i_list (e_var (pv 1))) (g_tup c.calm (gs_cons (g_name (i := 3) sc__law_all_orders.nd rfl (.inl rfl)) (gs_cons (g_name (i := 4) sc__law_all_orders.nd rfl (.inl rfl)) gs_nil))) (s_cons (s_for c (i_range1 (by rfl) T.range (a_cons (e_z (z_callB call_len sLen (by rfl) T.len_ (by decide +kernel) (za_cons (z_var (pv 0)) za_nil))) a_nil)) (g_name (i := 5) sc__law_all_orders.nd rfl (.inl rfl)) (s_one (s_set (i := 4) sc__law_all_orders.nd rfl (.inl rfl) (e_z (z_op op_mulW sMul (z_var (pv 4)) (z_ix ix_seq sIx (z_ix ix_seq sIx (z_var (pv 0)) (z_var (pv 5))) (z_ix ix_seq sIx (z_var (pv 3)) (z_var (pv 5)))))))))
    (s_one (s_set (i := 2) sc__law_all_orders.nd rfl (.inl rfl) (e_z (z_op op_add sAdd (z_var (pv 2)) (z_var (pv 4))))))))
    (s_one (s_ret (e_mv (pv 2))))))
theorem ok__law_entry (T : Tx K mg ca)  {f : Addr} {fd : FuncData} (F : Fun K "_law_entry" "_law_entry" s__law_entry f fd) : FnOk P w K mg base (L2.CX P w) 1 f fd ["_law_cell_here"] (spP K ca f__law_entry) :=
  fn_ok F sc__law_entry fun cdv A outer s H E F0 R hr c => (s_cons (s_if (t_cmpZ (op_eqD hr.units) sEq (z_op op_mod sMod (z_var (pv 0)) z_int) z_int) (s_one (s_ret (e_z (z_op op_sub sSub (z_op op_mod sMod (z_op op_fdivW sDiv (z_var (pv 0)) z_int) (z_op op_mulW sMul z_int (z_op op_pow sPow z_int z_int))) (z_op op_pow sPow z_int z_int))))) s_nil)
    (s_one (s_ret (e_z (z_op op_sub sSub (z_op op_mod sMod (z_op op_fdivW sDiv (z_var (pv 0)) z_int) z_int) z_int)))))
theorem ok__law_floor (T : Tx K mg ca) (G__law_whole : Fo P w K mg base ca 1 "_law_whole" f__law_whole) {f : Addr} {fd : FuncData} (F : Fun K "_law_floor" "_law_floor" s__law_floor f fd) : FnOk P w K mg base (L2.CX P w) 2 f fd ["_law_found", "_law_top", "_law_bottom"] (spP K ca f__law_floor) :=
  fn_ok F sc__law_floor fun cdv A outer s H E F0 R hr c => (s_cons (s_if (t_not (t_valE (e_call c G__law_whole hr (by rfl) (a_cons (e_var (pv 0)) a_nil)))) (s_one (s_ret (e_z z_bl))) s_nil)
    (s_cons (s_if (t_cmpZ op_lt sLt (z_var (pv 2)) z_int) (s_cons (s_set (i := 1) sc__law_floor.nd rfl (.inl rfl) (e_z (z_un un_neg sNeg (z_var (pv 1)))))
    (s_one (s_set (i := 2) sc__law_floor.nd rfl (.inl rfl) (e_z (z_un un_neg sNeg (z_var (pv 2))))))) s_nil)
    (s_one (s_ret (e_z (z_chain op_le sLe op_lt sLt (z_op op_mulW sMul (z_var (pv 0)) (z_var (pv 2))) (z_var (pv 1)) (z_op op_mulW sMul (z_op op_add sAdd (z_var (pv 0)) z_int) (z_var (pv 2)))))))))
theorem ok__law_minor (T : Tx K mg ca)  {f : Addr} {fd : FuncData} (F : Fun K "_law_minor" "_law_minor" s__law_minor f fd) : FnOk P w K mg base (L2.CX P w) 1 f fd ["_law_matrix", "_law_row", "_law_column"] (spP K ca f__law_minor) :=
  fn_ok F sc__law_minor fun cdv A outer s H E F0 R hr c => (s_cons (s_set (i := 3) sc__law_minor.nd rfl (.inl rfl) (e_lst a_nil))
    (s_cons (s_for c (i_range1 (by rfl) T.range (a_cons (e_z (z_callB call_len sLen (by rfl) T.len_ (by decide +kernel) (za_cons (z_var (pv 0)) za_nil))) a_nil)) (g_name (i := 4) sc__law_minor.nd rfl (.inl rfl)) (s_one (s_if (t_cmpZ (op_neD hr.units) sNe (z_var (pv 4)) (z_var (pv 1))) (s_one (s_app (pv 3) (e_cat (e_sliceL (e_z (z_ix ix_seq sIx (z_var (pv 0)) (z_var (pv 4)))) pe_none (pe_some (e_var (pv 2)))) (e_sliceL (e_z (z_ix ix_seq sIx (z_var (pv 0)) (z_var (pv 4)))) (pe_some (e_z (z_op op_add sAdd (z_var (pv 2)) z_int))) pe_none)))) s_nil)))
    (s_one (s_ret (e_mv (pv 3))))))
theorem ok_law (T : Tx K mg ca) (G__law_grid : Fo P w K mg base ca 1 "_law_grid" f__law_grid) (G_determinant : Fo P w K mg base ca 12 "determinant" f_determinant) (G_inverse : Fo P w K mg base ca 13 "inverse" f_inverse) (G__law_orders : Fo P w K mg base ca 1 "_law_orders" f__law_orders) (G__law_cell : Fo P w K mg base ca 1 "_law_cell" f__law_cell) (G__law_whole : Fo P w K mg base ca 1 "_law_whole" f__law_whole) (G__law_all_orders : Fo P w K mg base ca 1 "_law_all_orders" f__law_all_orders) (G__law_entry : Fo P w K mg base ca 1 "_law_entry" f__law_entry) (G__law_floor : Fo P w K mg base ca 2 "_law_floor" f__law_floor) (G__law_minor : Fo P w K mg base ca 1 "_law_minor" f__law_minor) {f : Addr} {fd : FuncData} (F : Fun K "law" "law" s_law f fd) : FnOk P w K mg base (L2.CX P w) 14 f fd ["_law_script"] (spP K ca f_law) :=
  fn_ok F sc_law fun cdv A outer s H E F0 R hr c => (s_cons (s_set (i := 1) sc_law.nd rfl (.inl rfl) (e_op op_add sAdd (e_z z_int) (e_op op_mod sMod (e_call c G__law_cell hr (by rfl) (a_cons (e_var (pv 0)) (a_cons (e_z z_int) a_nil))) (e_z z_int))))
    (s_cons (s_set (i := 2) sc_law.nd rfl (.inl rfl) (e_call c G__law_grid hr (by rfl) (a_cons (e_call c G__law_cell hr (by rfl) (a_cons (e_var (pv 0)) (a_cons (e_z z_int) a_nil))) a_nil)))
    (s_cons (s_set (i := 3) sc_law.nd rfl (.inl rfl) (e_lst a_nil))
    (s_cons (s_for c (i_range1 (by rfl) T.range (a_cons (e_var (pv 1)) a_nil)) (g_name (i := 4) sc_law.nd rfl (.inr rfl)) (s_one (s_app (pv 3) (e_fz (e_lc (own := [("_law_k", 5)]) c sc_law.nd (i_range1 (by rfl) T.range (a_cons (e_var (pv 1)) a_nil)) (blkOk_by (own := [("_law_k", 5)]) (N := ["_law_script", "_law_size", "_law_grid_here", "_law_matrix", "_law_row", "_law_k", "_law_at", "_law_entry_here", "_law_handed", "_law_whole_here", "_law_found", "_law_orders_here", "_law_column", "_law_part"]) (sc := defScope s_law) (by decide +kernel)) (fun _ _ _ _ _ => (g_name (i := 5) sc_law.nd rfl (.inl rfl))) (fun _ _ _ _ _ => ts_nil) (fun _ _ _ _ _ c => (e_call c G__law_entry hr (by rfl) (a_cons (e_call c G__law_cell hr (by rfl) (a_cons (e_var (pv 0)) (a_cons (e_z (z_op op_add sAdd (z_op op_add sAdd z_int (z_op op_mulW sMul z_int (z_var (pv 4)))) (z_var (pv 5)))) a_nil))) a_nil))))))))
    (s_cons (s_if (PW.pt (t_and (t_cmpE (op_eqD hr.units) sEq (e_op op_mod sMod (e_call c G__law_cell hr (by rfl) (a_cons (e_var (pv 0)) (a_cons (e_z z_int) a_nil))) (e_z z_int)) (e_z z_int)) (t_and1 (t_cmpZ op_gt sGt (z_var (pv 1)) z_int)))) (s_cons (s_set (i := 6) sc_law.nd rfl (.inl rfl) (e_op op_mod sMod (e_op op_fdivW sDiv (e_call c G__law_cell hr (by rfl) (a_cons (e_var (pv 0)) (a_cons (e_z z_int) a_nil))) (e_z z_int)) (e_var (pv 1))))
    (s_one (s_setIx (pv 3) (z_var (pv 6)) (e_lc (own := [("_law_entry_here", 7)]) c sc_law.nd (i_list (e_z (z_ix ix_seq sIx (z_var (pv 3)) (z_op op_mod sMod (z_op op_add sAdd (z_var (pv 6)) z_int) (z_var (pv 1)))))) (blkOk_by (own := [("_law_entry_here", 7)]) (N := ["_law_script", "_law_size", "_law_grid_here", "_law_matrix", "_law_row", "_law_k", "_law_at", "_law_entry_here", "_law_handed", "_law_whole_here", "_law_found", "_law_orders_here", "_law_column", "_law_part"]) (sc := defScope s_law) (by decide +kernel)) (fun _ _ _ _ _ => (g_name (i := 7) sc_law.nd rfl (.inl rfl))) (fun _ _ _ _ _ => ts_nil) (fun _ _ _ _ _ c => (e_z (z_op op_mulW sMul z_int (z_var (pv 7))))))))) s_nil)
    (s_cons (s_setLc (i := 8) (own := [("_law_row", 4)]) c sc_law.nd rfl rfl (sw_true rfl rfl rfl (by decide +kernel)) (i_list (e_var (pv 3))) (blkOk_by (own := [("_law_row", 4)]) (N := ["_law_script", "_law_size", "_law_grid_here", "_law_matrix", "_law_row", "_law_k", "_law_at", "_law_entry_here", "_law_handed", "_law_whole_here", "_law_found", "_law_orders_here", "_law_column", "_law_part"]) (sc := defScope s_law) (by decide +kernel)) (fun _ _ _ _ _ => (g_name (i := 4) sc_law.nd rfl (.inl rfl))) (fun _ _ _ _ _ => ts_nil) (fun _ _ _ _ _ c => (e_lstOf (by rfl) T.list_ (by decide +kernel) (a_cons (e_var (pv 4)) a_nil))))
    (s_cons (s_set (i := 9) sc_law.nd rfl (.inl rfl) (e_call c G_determinant hr (by rfl) (a_cons (e_var (pv 8)) a_nil)))
    (s_cons (s_set (i := 10) sc_law.nd rfl (.inl rfl) (e_call c G_inverse hr (by rfl) (a_cons (e_var (pv 8)) (a_cons (e_var (pv 2)) a_nil))))
    (s_cons (s_if (PW.pt (t_or (t_not (t_valE (e_call c G__law_whole hr (by rfl) (a_cons (e_var (pv 9)) a_nil)))) (t_or (t_cmpE (op_neD hr.units) sNe (e_var (pv 9)) (e_call c G__law_all_orders hr (by rfl) (a_cons (e_var (pv 3)) (a_cons (e_call c G__law_orders hr (by rfl) (a_cons (e_var (pv 1)) a_nil)) a_nil)))) (t_or1 (t_cmpZ (op_neD hr.units) sNe (z_var (pv 8)) (z_var (pv 3))))))) (s_one (s_ret (e_z z_bl))) s_nil)
    (s_cons (s_if (t_cmpZ (op_eqD hr.units) sEq (z_var (pv 9)) z_int) (s_one (s_ret (e_z (z_cmp op_isN sIsN (z_var (pv 10)) z_non)))) s_nil)
    (s_cons (s_if (PW.pt (t_or (t_not (t_valZ (z_callB call_isi sIsi (by rfl) T.isinstance (by decide +kernel) (za_cons (z_var (pv 10)) (za_cons (z_ty (by rfl) T.list_ (by decide +kernel)) za_nil))))) (t_or1 (t_cmpZ (op_neD hr.units) sNe (z_callB call_len sLen (by rfl) T.len_ (by decide +kernel) (za_cons (z_var (pv 10)) za_nil)) (z_var (pv 1)))))) (s_one (s_ret (e_z z_bl))) s_nil)
    (s_cons (s_set (i := 11) sc_law.nd rfl (.inl rfl) (e_call c G__law_orders hr (by rfl) (a_cons (e_z (z_op op_sub sSub (z_var (pv 1)) z_int)) a_nil)))
    (s_cons (s_for c (i_range1 (by rfl) T.range (a_cons (e_var (pv 1)) a_nil)) (g_name (i := 4) sc_law.nd rfl (.inr rfl)) (s_cons (s_if (PW.pt (t_or (t_not (t_valZ (z_callB call_isi sIsi (by rfl) T.isinstance (by decide +kernel) (za_cons (z_ix ix_seq sIx (z_var (pv 10)) (z_var (pv 4))) (za_cons (z_ty (by rfl) T.list_ (by decide +kernel)) za_nil))))) (t_or1 (t_cmpZ (op_neD hr.units) sNe (z_callB call_len sLen (by rfl) T.len_ (by decide +kernel) (za_cons (z_ix ix_seq sIx (z_var (pv 10)) (z_var (pv 4))) za_nil)) (z_var (pv 1)))))) (s_one (s_ret (e_z z_bl))) s_nil)
    (s_one (s_for c (i_range1 (by rfl) T.range (a_cons (e_var (pv 1)) a_nil)) (g_name (i := 12) sc_law.nd rfl (.inl rfl)) (s_cons (s_set (i := 13) sc_law.nd rfl (.inl rfl) (e_op op_mulW sMul (e_call c G__law_all_orders hr (by rfl) (a_cons (e_call c G__law_minor hr (by rfl) (a_cons (e_var (pv 3)) (a_cons (e_var (pv 12)) (a_cons (e_var (pv 4)) a_nil)))) (a_cons (e_var (pv 11)) a_nil))) (e_z (z_op op_sub sSub z_int (z_op op_mulW sMul z_int (z_op op_mod sMod (z_op op_add sAdd (z_var (pv 4)) (z_var (pv 12))) z_int))))))
    (s_one (s_if (t_not (t_valE (e_call c G__law_floor hr (by rfl) (a_cons (e_z (z_ix ix_seq sIx (z_ix ix_seq sIx (z_var (pv 10)) (z_var (pv 4))) (z_var (pv 12)))) (a_cons (e_z (z_op op_mulW sMul (z_op op_mulW sMul (z_var (pv 2)) (z_var (pv 2))) (z_var (pv 13)))) (a_cons (e_var (pv 9)) a_nil)))))) (s_one (s_ret (e_z z_bl))) s_nil)))))))
    (s_one (s_ret (e_z z_bl))))))))))))))))
theorem repL_ints {K : PySem.W.Frag} {ca : Str → Addr} {F : Hp} : ∀ ns : List Int, RepL K ca F (ns.map D.int) (ns.map V.int)
  | [] => rfl
  | i :: r => ⟨.int i, r.map V.int, rfl, rfl, repL_ints r⟩
theorem cx_none {P : Program} {w : World} {H : Hp} {s : Shared} {e : Value} {s' : Shared} (h : L2.CX P w [] H s (fun _ _ _ => False) e s') : False := by
  obtain ⟨_, _, _, _, _, _, _, _, _, _, _, _, z⟩ := h
  exact z
def spL (K : PySem.W.Frag) : Sp := fun vs H Q _ => ∃ (a : Addr) (ns : List Int), vs = [.ref a] ∧ ns.length ≤ 63 ∧ SqL K H a (ns.map V.int) ∧ ∀ H', Q (.bl true) H'
theorem sp_law {K : PySem.W.Frag} {ca : Str → Addr} (hl : ∀ ns : List Int, ns.length ≤ 63 → f_law [.cst (ns.map D.int)] = .ok (.bl true)) (vs : List V) (H : Hp) (Q : VK) (E : XK) (h : spL K vs H Q E) : spP K ca f_law vs H Q E := by
  obtain ⟨a, ns, rfl, hn, hS, q⟩ := h
  refine ⟨H, [.cst (ns.map D.int)], Same.refl _, ⟨.ref a, [], rfl, ⟨a, _, rfl, hS, repL_ints ns⟩, rfl⟩, ?_⟩
  rw [hl ns hn]
  intro v F' H' f _ _ _ hv _ _ _
  cases (show v = .bl true from hv.1)
  exact q H'

set_option maxHeartbeats 0 in
theorem all_mk {l : PySem.W.OpenLaw} {w : World} {K : PySem.W.Frag} {h : Heap} {mg : Str → Option Value} {fa f0 f1 f2 f3 f4 f5 f6 f7 f8 f9 f10 f11 : Addr} (X : K.In h) (G : h.Ns mainGlobals mg) (hfa : mg "law" = some (.ref fa))
    {od0 an0 : Option Addr} {sl0 : Array (Option Value)} {oc0 kV0 dc0 pm0 cd0 ct0 : Value} (a0 : PySem.W.nsIn K mainGlobals "_law_grid" = some (some (.ref f0))) (l0 : K.lookup f0 = some ⟨oc0, od0, .func (PySem.W.fnOf "_law_grid" "_law_grid" (defArgs s__law_grid) (defBody s__law_grid) (defScope s__law_grid) .none kV0 dc0 pm0 an0 cd0 ct0), sl0⟩) (c0 : PySem.W.codeIn K cd0 "_law_grid" = true) (k0 : PySem.W.keepIn K (.ref f0) = true)
    {od1 an1 : Option Addr} {sl1 : Array (Option Value)} {oc1 kV1 dc1 pm1 cd1 ct1 : Value} (a1 : PySem.W.nsIn K mainGlobals "without" = some (some (.ref f1))) (l1 : K.lookup f1 = some ⟨oc1, od1, .func (PySem.W.fnOf "without" "without" (defArgs s_without) (defBody s_without) (defScope s_without) .none kV1 dc1 pm1 an1 cd1 ct1), sl1⟩) (c1 : PySem.W.codeIn K cd1 "without" = true) (k1 : PySem.W.keepIn K (.ref f1) = true)
    {od2 an2 : Option Addr} {sl2 : Array (Option Value)} {oc2 kV2 dc2 pm2 cd2 ct2 : Value} (a2 : PySem.W.nsIn K mainGlobals "determinant" = some (some (.ref f2))) (l2 : K.lookup f2 = some ⟨oc2, od2, .func (PySem.W.fnOf "determinant" "determinant" (defArgs s_determinant) (defBody s_determinant) (defScope s_determinant) .none kV2 dc2 pm2 an2 cd2 ct2), sl2⟩) (c2 : PySem.W.codeIn K cd2 "determinant" = true) (k2 : PySem.W.keepIn K (.ref f2) = true)
    {od3 an3 : Option Addr} {sl3 : Array (Option Value)} {oc3 kV3 dc3 pm3 cd3 ct3 : Value} (a3 : PySem.W.nsIn K mainGlobals "inverse" = some (some (.ref f3))) (l3 : K.lookup f3 = some ⟨oc3, od3, .func (PySem.W.fnOf "inverse" "inverse" (defArgs s_inverse) (defBody s_inverse) (defScope s_inverse) .none kV3 dc3 pm3 an3 cd3 ct3), sl3⟩) (c3 : PySem.W.codeIn K cd3 "inverse" = true) (k3 : PySem.W.keepIn K (.ref f3) = true)
    {od4 an4 : Option Addr} {sl4 : Array (Option Value)} {oc4 kV4 dc4 pm4 cd4 ct4 : Value} (a4 : PySem.W.nsIn K mainGlobals "_law_orders" = some (some (.ref f4))) (l4 : K.lookup f4 = some ⟨oc4, od4, .func (PySem.W.fnOf "_law_orders" "_law_orders" (defArgs s__law_orders) (defBody s__law_orders) (defScope s__law_orders) .none kV4 dc4 pm4 an4 cd4 ct4), sl4⟩) (c4 : PySem.W.codeIn K cd4 "_law_orders" = true) (k4 : PySem.W.keepIn K (.ref f4) = true)
    {od5 an5 : Option Addr} {sl5 : Array (Option Value)} {oc5 kV5 dc5 pm5 cd5 ct5 : Value} (a5 : PySem.W.nsIn K mainGlobals "_law_cell" = some (some (.ref f5))) (l5 : K.lookup f5 = some ⟨oc5, od5, .func (PySem.W.fnOf "_law_cell" "_law_cell" (defArgs s__law_cell) (defBody s__law_cell) (defScope s__law_cell) .none kV5 dc5 pm5 an5 cd5 ct5), sl5⟩) (c5 : PySem.W.codeIn K cd5 "_law_cell" = true) (k5 : PySem.W.keepIn K (.ref f5) = true)
    {od6 an6 : Option Addr} {sl6 : Array (Option Value)} {oc6 kV6 dc6 pm6 cd6 ct6 : Value} (a6 : PySem.W.nsIn K mainGlobals "_law_whole" = some (some (.ref f6))) (l6 : K.lookup f6 = some ⟨oc6, od6, .func (PySem.W.fnOf "_law_whole" "_law_whole" (defArgs s__law_whole) (defBody s__law_whole) (defScope s__law_whole) .none kV6 dc6 pm6 an6 cd6 ct6), sl6⟩) (c6 : PySem.W.codeIn K cd6 "_law_whole" = true) (k6 : PySem.W.keepIn K (.ref f6) = true)
    {od7 an7 : Option Addr} {sl7 : Array (Option Value)} {oc7 kV7 dc7 pm7 cd7 ct7 : Value} (a7 : PySem.W.nsIn K mainGlobals "_law_all_orders" = some (some (.ref f7))) (l7 : K.lookup f7 = some ⟨oc7, od7, .func (PySem.W.fnOf "_law_all_orders" "_law_all_orders" (defArgs s__law_all_orders) (defBody s__law_all_orders) (defScope s__law_all_orders) .none kV7 dc7 pm7 an7 cd7 ct7), sl7⟩) (c7 : PySem.W.codeIn K cd7 "_law_all_orders" = true) (k7 : PySem.W.keepIn K (.ref f7) = true)
    {od8 an8 : Option Addr} {sl8 : Array (Option Value)} {oc8 kV8 dc8 pm8 cd8 ct8 : Value} (a8 : PySem.W.nsIn K mainGlobals "_law_entry" = some (some (.ref f8))) (l8 : K.lookup f8 = some ⟨oc8, od8, .func (PySem.W.fnOf "_law_entry" "_law_entry" (defArgs s__law_entry) (defBody s__law_entry) (defScope s__law_entry) .none kV8 dc8 pm8 an8 cd8 ct8), sl8⟩) (c8 : PySem.W.codeIn K cd8 "_law_entry" = true) (k8 : PySem.W.keepIn K (.ref f8) = true)
    {od9 an9 : Option Addr} {sl9 : Array (Option Value)} {oc9 kV9 dc9 pm9 cd9 ct9 : Value} (a9 : PySem.W.nsIn K mainGlobals "_law_floor" = some (some (.ref f9))) (l9 : K.lookup f9 = some ⟨oc9, od9, .func (PySem.W.fnOf "_law_floor" "_law_floor" (defArgs s__law_floor) (defBody s__law_floor) (defScope s__law_floor) .none kV9 dc9 pm9 an9 cd9 ct9), sl9⟩) (c9 : PySem.W.codeIn K cd9 "_law_floor" = true) (k9 : PySem.W.keepIn K (.ref f9) = true)
    {od10 an10 : Option Addr} {sl10 : Array (Option Value)} {oc10 kV10 dc10 pm10 cd10 ct10 : Value} (a10 : PySem.W.nsIn K mainGlobals "_law_minor" = some (some (.ref f10))) (l10 : K.lookup f10 = some ⟨oc10, od10, .func (PySem.W.fnOf "_law_minor" "_law_minor" (defArgs s__law_minor) (defBody s__law_minor) (defScope s__law_minor) .none kV10 dc10 pm10 an10 cd10 ct10), sl10⟩) (c10 : PySem.W.codeIn K cd10 "_law_minor" = true) (k10 : PySem.W.keepIn K (.ref f10) = true)
    {od11 an11 : Option Addr} {sl11 : Array (Option Value)} {oc11 kV11 dc11 pm11 cd11 ct11 : Value} (a11 : PySem.W.nsIn K mainGlobals "law" = some (some (.ref f11))) (l11 : K.lookup f11 = some ⟨oc11, od11, .func (PySem.W.fnOf "law" "law" (defArgs s_law) (defBody s_law) (defScope s_law) .none kV11 dc11 pm11 an11 cd11 ct11), sl11⟩) (c11 : PySem.W.codeIn K cd11 "law" = true) (k11 : PySem.W.keepIn K (.ref f11) = true)
    (z_bool_ : PySem.W.nsIn K mainGlobals "bool" = some none)
    (z_int_ : PySem.W.nsIn K mainGlobals "int" = some none)
    (z_isinstance : PySem.W.nsIn K mainGlobals "isinstance" = some none)
    (z_len_ : PySem.W.nsIn K mainGlobals "len" = some none)
    (z_list_ : PySem.W.nsIn K mainGlobals "list" = some none)
    (z_range : PySem.W.nsIn K mainGlobals "range" = some none)
    : ∃ fd : FuncData, (∀ (s : Shared) (v : Value), BindsTo s fd ⟨[v], []⟩ [("_law_script", v)]) ∧ ∀ base : Heap, K.In base → base.Ns mainGlobals mg → FnOk l.prog w K mg base (L2.CX l.prog w) 14 fa fd ["_law_script"] (spL K) := by
  have e := hfa.symm.trans (PySem.W.mg_of X G a11)
  cases e
  have F0 := fun_mk (st := s__law_grid) l0 c0 k0
  have b0 := F0.binds (ps := ["_law_cell_here"]) fun _ _ _ _ _ _ us hl => match us, hl with | [_], _ => rfl
  have F1 := fun_mk (st := s_without) l1 c1 k1
  have b1 := F1.binds (ps := ["matrix", "row", "column"]) fun _ _ _ _ _ _ us hl => match us, hl with | [_, _, _], _ => rfl
  have F2 := fun_mk (st := s_determinant) l2 c2 k2
  have b2 := F2.binds (ps := ["matrix"]) fun _ _ _ _ _ _ us hl => match us, hl with | [_], _ => rfl
  have F3 := fun_mk (st := s_inverse) l3 c3 k3
  have b3 := F3.binds (ps := ["matrix", "grid"]) fun _ _ _ _ _ _ us hl => match us, hl with | [_, _], _ => rfl
  have F4 := fun_mk (st := s__law_orders) l4 c4 k4
  have b4 := F4.binds (ps := ["_law_size"]) fun _ _ _ _ _ _ us hl => match us, hl with | [_], _ => rfl
  have F5 := fun_mk (st := s__law_cell) l5 c5 k5
  have b5 := F5.binds (ps := ["_law_script", "_law_k"]) fun _ _ _ _ _ _ us hl => match us, hl with | [_, _], _ => rfl
  have F6 := fun_mk (st := s__law_whole) l6 c6 k6
  have b6 := F6.binds (ps := ["_law_found"]) fun _ _ _ _ _ _ us hl => match us, hl with | [_], _ => rfl
  have F7 := fun_mk (st := s__law_all_orders) l7 c7 k7
  have b7 := F7.binds (ps := ["_law_matrix", "_law_orders_here"]) fun _ _ _ _ _ _ us hl => match us, hl with | [_, _], _ => rfl
  have F8 := fun_mk (st := s__law_entry) l8 c8 k8
  have b8 := F8.binds (ps := ["_law_cell_here"]) fun _ _ _ _ _ _ us hl => match us, hl with | [_], _ => rfl
  have F9 := fun_mk (st := s__law_floor) l9 c9 k9
  have b9 := F9.binds (ps := ["_law_found", "_law_top", "_law_bottom"]) fun _ _ _ _ _ _ us hl => match us, hl with | [_, _, _], _ => rfl
  have F10 := fun_mk (st := s__law_minor) l10 c10 k10
  have b10 := F10.binds (ps := ["_law_matrix", "_law_row", "_law_column"]) fun _ _ _ _ _ _ us hl => match us, hl with | [_, _, _], _ => rfl
  have F11 := fun_mk (st := s_law) l11 c11 k11
  have b11 := F11.binds (ps := ["_law_script"]) fun _ _ _ _ _ _ us hl => match us, hl with | [_], _ => rfl
  have T : Tx K mg (fun _ => 0) := { bool_ := PySem.W.mg_none_of X G z_bool_, int_ := PySem.W.mg_none_of X G z_int_, isinstance := PySem.W.mg_none_of X G z_isinstance, len_ := PySem.W.mg_none_of X G z_len_, list_ := PySem.W.mg_none_of X G z_list_, range := PySem.W.mg_none_of X G z_range }
  refine ⟨PySem.W.fnOf "law" "law" (defArgs s_law) (defBody s_law) (defScope s_law) .none kV11 dc11 pm11 an11 cd11 ct11, fun s v => .of_eq rfl, fun base _ _ => ?_⟩
  have G__law_grid : Fo l.prog w K mg base (fun _ => 0) 1 "_law_grid" f__law_grid := fo_of F0 (PySem.W.mg_of X G a0) b0 (ok__law_grid T  F0)
  have G_without : Fo l.prog w K mg base (fun _ => 0) 1 "without" f_without := fo_of F1 (PySem.W.mg_of X G a1) b1 (ok_without T  F1)
  have R_determinant : ∀ n : Nat, Fo l.prog w K mg base (fun _ => 0) (n * 2) "determinant" (fr_determinant n) := by
    intro n
    induction n with
    | zero => exact fo_bad F2 (PySem.W.mg_of X G a2) b2
    | succ n ih =>
      have G_determinant := ih
      exact (fo_of F2 (PySem.W.mg_of X G a2) b2 (ok_determinant T G_determinant G_without F2)).at (by omega)
  have G_determinant := R_determinant 6
  replace G_determinant : Fo l.prog w K mg base (fun _ => 0) 12 "determinant" f_determinant := G_determinant
  have G_inverse : Fo l.prog w K mg base (fun _ => 0) 13 "inverse" f_inverse := fo_of F3 (PySem.W.mg_of X G a3) b3 (ok_inverse T G_determinant G_without F3)
  have G__law_orders : Fo l.prog w K mg base (fun _ => 0) 1 "_law_orders" f__law_orders := fo_of F4 (PySem.W.mg_of X G a4) b4 (ok__law_orders T  F4)
  have G__law_cell : Fo l.prog w K mg base (fun _ => 0) 1 "_law_cell" f__law_cell := fo_of F5 (PySem.W.mg_of X G a5) b5 (ok__law_cell T  F5)
  have G__law_whole : Fo l.prog w K mg base (fun _ => 0) 1 "_law_whole" f__law_whole := fo_of F6 (PySem.W.mg_of X G a6) b6 (ok__law_whole T  F6)
  have G__law_all_orders : Fo l.prog w K mg base (fun _ => 0) 1 "_law_all_orders" f__law_all_orders := fo_of F7 (PySem.W.mg_of X G a7) b7 (ok__law_all_orders T  F7)
  have G__law_entry : Fo l.prog w K mg base (fun _ => 0) 1 "_law_entry" f__law_entry := fo_of F8 (PySem.W.mg_of X G a8) b8 (ok__law_entry T  F8)
  have G__law_floor : Fo l.prog w K mg base (fun _ => 0) 2 "_law_floor" f__law_floor := fo_of F9 (PySem.W.mg_of X G a9) b9 (ok__law_floor T G__law_whole F9)
  have G__law_minor : Fo l.prog w K mg base (fun _ => 0) 1 "_law_minor" f__law_minor := fo_of F10 (PySem.W.mg_of X G a10) b10 (ok__law_minor T  F10)
  exact (ok_law T G__law_grid G_determinant G_inverse G__law_orders G__law_cell G__law_whole G__law_all_orders G__law_entry G__law_floor G__law_minor F11).imp fun vs H Q E hs => sp_law law_true vs H Q E hs
end
end Lw
open PySem PySem.W PyProof.Rows
set_option maxHeartbeats 0 in
theorem PySem.Challenge.cw_boxnarrow_k43_inverse_holds : PySem.Challenge.rw_boxnarrow_k43_inverse.Holds := by
  w_on; o_law; k_head; (case hw => w_witness2)
  k_fill
  refine L2.walk_of (l := PySem.Challenge.rw_boxnarrow_k43_inverse) (n := 63) (k := 14) (x := "_law_script") (CX := fun w => L2.CX PySem.Challenge.rw_boxnarrow_k43_inverse.prog w) (sp := fun w => Lw.spL _) rfl (by decide) rfl ⟨rfl, by decide, by decide⟩ (fun w h Y => PySem.W.kIn_of Y) ?F (fun _ H a ns hl _ hS => ⟨a, ns, rfl, hl, hS, fun _ => rfl⟩) (fun _ _ _ _ _ h => Lw.cx_none h)
  case F =>
    intro w mg fa h KX G hmg
    refine' Lw.all_mk KX G hmg ?a0 ?l0 ?c0 ?k0 ?a1 ?l1 ?c1 ?k1 ?a2 ?l2 ?c2 ?k2 ?a3 ?l3 ?c3 ?k3 ?a4 ?l4 ?c4 ?k4 ?a5 ?l5 ?c5 ?k5 ?a6 ?l6 ?c6 ?k6 ?a7 ?l7 ?c7 ?k7 ?a8 ?l8 ?c8 ?k8 ?a9 ?l9 ?c9 ?k9 ?a10 ?l10 ?c10 ?k10 ?a11 ?l11 ?c11 ?k11 ?z_bool_ ?z_int_ ?z_isinstance ?z_len_ ?z_list_ ?z_range
    (case a0 => k_is); (case l0 => k_is); (case c0 => k_is); (case k0 => k_is); (case a1 => k_is); (case l1 => k_is); (case c1 => k_is); (case k1 => k_is); (case a2 => k_is); (case l2 => k_is); (case c2 => k_is); (case k2 => k_is); (case a3 => k_is); (case l3 => k_is); (case c3 => k_is); (case k3 => k_is); (case a4 => k_is); (case l4 => k_is); (case c4 => k_is); (case k4 => k_is); (case a5 => k_is); (case l5 => k_is); (case c5 => k_is); (case k5 => k_is); (case a6 => k_is); (case l6 => k_is); (case c6 => k_is); (case k6 => k_is); (case a7 => k_is); (case l7 => k_is); (case c7 => k_is); (case k7 => k_is); (case a8 => k_is); (case l8 => k_is); (case c8 => k_is); (case k8 => k_is); (case a9 => k_is); (case l9 => k_is); (case c9 => k_is); (case k9 => k_is); (case a10 => k_is); (case l10 => k_is); (case c10 => k_is); (case k10 => k_is); (case a11 => k_is); (case l11 => k_is); (case c11 => k_is); (case k11 => k_is); (case z_bool_ => k_is); (case z_int_ => k_is); (case z_isinstance => k_is); (case z_len_ => k_is); (case z_list_ => k_is); (case z_range => k_is)
