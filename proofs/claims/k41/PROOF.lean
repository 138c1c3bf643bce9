import PyProof.Rows.All
import Wide.All
import OpenK.AllK
import Wide.FinOn
import HandS.ForExc
import HandS.ForMost
import HandS.Wide
import HandS.IsInst
import HandS.ExcIs
import HandS.Deep
import HandS.SortInts
import HandS.TupLe
import HandS.Rev
import HandS.More
import PySem.Challenge.RW_boxnarrow_k41_slopes_of_kinds
set_option Elab.async false
set_option linter.all false
set_option maxRecDepth 100000
/-! Values as trees; who owns what. -/
namespace Bn
open PySem PySem.Spec PyProof.Rows L2

inductive D where
  | non | bl (b : Bool) | int (i : Int) | str (s : Str) | ty (n : String)
  | tup (xs : List D)
  | lst (m : Bool) (xs : List D)
  | cst (xs : List D)
  | obj (m : Bool) (c : Str) (ns : List Str) (xs : List D)
  deriving Inhabited
abbrev Env := List (Option D)
abbrev Ct := Addr → Nat

def isFz : D → Bool
  | .lst true _ => false
  | .obj true _ _ _ => false
  | _ => true

mutual
def freeze : D → D
  | .lst true xs => .lst false (freezeL xs)
  | .lst false xs => .lst false xs
  | .obj true c ns xs => .obj false c ns (freezeL xs)
  | .obj false c ns xs => .obj false c ns xs
  | .non => .non | .bl b => .bl b | .int i => .int i | .str s => .str s | .ty n => .ty n | .tup xs => .tup xs | .cst xs => .cst xs
def freezeL : List D → List D
  | [] => []
  | x :: xs => freeze x :: freezeL xs
end

section
variable (K : PySem.W.Frag) (ca : Str → Addr)
mutual
/-- d stands at v, in the part F of the heap that never changes -/
def Rep (F : Hp) : D → V → Prop
  | .non, v => v = .non
  | .bl b, v => v = .bl b
  | .int i, v => v = .int i
  | .str s, v => v = .str s
  | .ty n, v => v = .ty n
  | .tup ds, v => ∃ a vs, v = .ref a ∧ SqT K F a vs ∧ RepL F ds vs
  | .lst true _, _ => False
  | .lst false ds, v => ∃ a vs, v = .ref a ∧ F a = some (.lst vs) ∧ RepL F ds vs
  | .cst ds, v => ∃ a vs, v = .ref a ∧ SqL K F a vs ∧ RepL F ds vs
  | .obj true _ _ _, _ => False
  | .obj false c ns ds, v => ∃ a dx fs vs, v = .ref a ∧ F a = some (.ins (ca c) dx fs) ∧ fs = ns.zip vs ∧ ns.length = vs.length ∧ RepL F ds vs
def RepL (F : Hp) : List D → List V → Prop
  | [], vs => vs = []
  | d :: ds, vs => ∃ v r, vs = v :: r ∧ Rep F d v ∧ RepL F ds r
end
mutual
/-- d stands at v; what it owns is counted by the last argument -/
def RepO (F H : Hp) : D → V → Ct → Prop
  | .lst true ds, v, f => ∃ a vs g, v = .ref a ∧ H a = some (.lst vs) ∧ RepOs F H ds vs g ∧ ∀ b, f b = (if b = a then 1 else 0) + g b
  | .obj true c ns ds, v, f => ∃ a dx fs vs g, v = .ref a ∧ H a = some (.ins (ca c) dx fs) ∧ fs = ns.zip vs ∧ ns.length = vs.length ∧ RepOs F H ds vs g ∧ ∀ b, f b = (if b = a then 1 else 0) + g b
  | .lst false ds, v, f => Rep K ca F (.lst false ds) v ∧ ∀ b, f b = 0
  | .obj false c ns ds, v, f => Rep K ca F (.obj false c ns ds) v ∧ ∀ b, f b = 0
  | .non, v, f => Rep K ca F .non v ∧ ∀ b, f b = 0
  | .bl x, v, f => Rep K ca F (.bl x) v ∧ ∀ b, f b = 0
  | .int x, v, f => Rep K ca F (.int x) v ∧ ∀ b, f b = 0
  | .str x, v, f => Rep K ca F (.str x) v ∧ ∀ b, f b = 0
  | .ty x, v, f => Rep K ca F (.ty x) v ∧ ∀ b, f b = 0
  | .tup x, v, f => Rep K ca F (.tup x) v ∧ ∀ b, f b = 0
  | .cst x, v, f => Rep K ca F (.cst x) v ∧ ∀ b, f b = 0
def RepOs (F H : Hp) : List D → List V → Ct → Prop
  | [], vs, f => vs = [] ∧ ∀ b, f b = 0
  | d :: ds, vs, f => ∃ v r f1 f2, vs = v :: r ∧ RepO F H d v f1 ∧ RepOs F H ds r f2 ∧ ∀ b, f b = f1 b + f2 b
end
end

section
variable {K : PySem.W.Frag} {ca : Str → Addr} {F F' H H' : Hp}

theorem sqT_same {K : PySem.W.Frag} {H H' : Hp} {a : Addr} {xs : List V} (e : Same H H') (h : SqT K H a xs) : SqT K H' a xs := by
  rcases h with (h | ⟨o, h⟩) | h
  · exact .inl (.inl (e _ _ h))
  · exact .inl (.inr ⟨o, e _ _ h⟩)
  · exact .inr h

mutual
theorem Rep.mono (e : Same F F') : ∀ (d : D) (v : V), Rep K ca F d v → Rep K ca F' d v
  | .non, _, h => h
  | .bl _, _, h => h
  | .int _, _, h => h
  | .str _, _, h => h
  | .ty _, _, h => h
  | .tup ds, v, h => by
    obtain ⟨a, vs, h1, h2, h3⟩ := h
    exact ⟨a, vs, h1, sqT_same e h2, RepL.mono e ds vs h3⟩
  | .lst true _, _, h => h
  | .lst false ds, v, h => by
    obtain ⟨a, vs, h1, h2, h3⟩ := h
    exact ⟨a, vs, h1, e _ _ h2, RepL.mono e ds vs h3⟩
  | .cst ds, v, h => by
    obtain ⟨a, vs, h1, h2, h3⟩ := h
    exact ⟨a, vs, h1, e.seq h2, RepL.mono e ds vs h3⟩
  | .obj true _ _ _, _, h => h
  | .obj false c ns ds, v, h => by
    obtain ⟨a, dx, fs, vs, h1, h2, h3, h4, h5⟩ := h
    exact ⟨a, dx, fs, vs, h1, e _ _ h2, h3, h4, RepL.mono e ds vs h5⟩
theorem RepL.mono (e : Same F F') : ∀ (ds : List D) (vs : List V), RepL K ca F ds vs → RepL K ca F' ds vs
  | [], _, h => h
  | d :: ds, _, h => by
    obtain ⟨v, r, h1, h2, h3⟩ := h
    exact ⟨v, r, h1, Rep.mono e d v h2, RepL.mono e ds r h3⟩
end

theorem repO_fz {d : D} (hd : isFz d = true) {v : V} {f : Ct} : RepO K ca F H d v f ↔ (Rep K ca F d v ∧ ∀ b, f b = 0) := by
  cases d with
  | lst m xs => cases m with
    | true => cases hd
    | false => exact Iff.rfl
  | obj m c ns xs => cases m with
    | true => cases hd
    | false => exact Iff.rfl
  | _ => exact Iff.rfl

theorem rep_isFz {d : D} {v : V} (h : Rep K ca F d v) : isFz d = true := by
  cases d with
  | lst m xs => cases m with
    | true => exact h.elim
    | false => rfl
  | obj m c ns xs => cases m with
    | true => exact h.elim
    | false => rfl
  | _ => rfl

theorem Rep.o {d : D} {v : V} (h : Rep K ca F d v) : RepO K ca F H d v (fun _ => 0) := (repO_fz (rep_isFz h)).mpr ⟨h, fun _ => rfl⟩
theorem RepL.os : ∀ {ds : List D} {vs : List V}, RepL K ca F ds vs → RepOs K ca F H ds vs (fun _ => 0)
  | [], _, h => ⟨h, fun _ => rfl⟩
  | _ :: _, _, ⟨v, r, h1, h2, h3⟩ => ⟨v, r, _, _, h1, h2.o, h3.os, fun _ => rfl⟩

mutual
theorem RepO.mono (e : Same F F') : ∀ (d : D) (v : V) (f : Ct), (∀ a, 0 < f a → H' a = H a) → RepO K ca F H d v f → RepO K ca F' H' d v f
  | .lst true ds, v, f, k, h => by
    obtain ⟨a, vs, g, h1, h2, h3, h4⟩ := h
    refine ⟨a, vs, g, h1, (k a (by rw [h4, if_pos rfl]; omega)).trans h2, RepOs.mono e ds vs g (fun b hb => k b (by rw [h4]; omega)) h3, h4⟩
  | .obj true c ns ds, v, f, k, h => by
    obtain ⟨a, dx, fs, vs, g, h1, h2, h5, h6, h3, h4⟩ := h
    refine ⟨a, dx, fs, vs, g, h1, (k a (by rw [h4, if_pos rfl]; omega)).trans h2, h5, h6, RepOs.mono e ds vs g (fun b hb => k b (by rw [h4]; omega)) h3, h4⟩
  | .lst false ds, v, f, k, h => ⟨Rep.mono e _ _ h.1, h.2⟩
  | .obj false c ns ds, v, f, k, h => ⟨Rep.mono e _ _ h.1, h.2⟩
  | .non, v, f, k, h => ⟨Rep.mono e _ _ h.1, h.2⟩
  | .bl _, v, f, k, h => ⟨Rep.mono e _ _ h.1, h.2⟩
  | .int _, v, f, k, h => ⟨Rep.mono e _ _ h.1, h.2⟩
  | .str _, v, f, k, h => ⟨Rep.mono e _ _ h.1, h.2⟩
  | .ty _, v, f, k, h => ⟨Rep.mono e _ _ h.1, h.2⟩
  | .tup _, v, f, k, h => ⟨Rep.mono e _ _ h.1, h.2⟩
  | .cst _, v, f, k, h => ⟨Rep.mono e _ _ h.1, h.2⟩
theorem RepOs.mono (e : Same F F') : ∀ (ds : List D) (vs : List V) (f : Ct), (∀ a, 0 < f a → H' a = H a) → RepOs K ca F H ds vs f → RepOs K ca F' H' ds vs f
  | [], _, _, _, h => h
  | d :: ds, _, f, k, h => by
    obtain ⟨v, r, f1, f2, h1, h2, h3, h4⟩ := h
    exact ⟨v, r, f1, f2, h1, RepO.mono e d v f1 (fun b hb => k b (by rw [h4]; omega)) h2, RepOs.mono e ds r f2 (fun b hb => k b (by rw [h4]; omega)) h3, h4⟩
end

mutual
theorem RepO.there : ∀ (d : D) (v : V) (f : Ct), RepO K ca F H d v f → ∀ a, 0 < f a → H a ≠ none
  | .lst true ds, v, f, h, b, hb => by
    obtain ⟨a, vs, g, h1, h2, h3, h4⟩ := h
    by_cases e : b = a
    · subst e; rw [h2]; exact fun z => by cases z
    · rw [h4, if_neg e] at hb; exact RepOs.there ds vs g h3 b (by omega)
  | .obj true c ns ds, v, f, h, b, hb => by
    obtain ⟨a, dx, fs, vs, g, h1, h2, h5, h6, h3, h4⟩ := h
    by_cases e : b = a
    · subst e; rw [h2]; exact fun z => by cases z
    · rw [h4, if_neg e] at hb; exact RepOs.there ds vs g h3 b (by omega)
  | .lst false ds, v, f, h, b, hb => by rw [h.2] at hb; omega
  | .obj false c ns ds, v, f, h, b, hb => by rw [h.2] at hb; omega
  | .non, v, f, h, b, hb => by rw [h.2] at hb; omega
  | .bl _, v, f, h, b, hb => by rw [h.2] at hb; omega
  | .int _, v, f, h, b, hb => by rw [h.2] at hb; omega
  | .str _, v, f, h, b, hb => by rw [h.2] at hb; omega
  | .ty _, v, f, h, b, hb => by rw [h.2] at hb; omega
  | .tup _, v, f, h, b, hb => by rw [h.2] at hb; omega
  | .cst _, v, f, h, b, hb => by rw [h.2] at hb; omega
theorem RepOs.there : ∀ (ds : List D) (vs : List V) (f : Ct), RepOs K ca F H ds vs f → ∀ a, 0 < f a → H a ≠ none
  | [], _, f, h, b, hb => by rw [h.2] at hb; omega
  | d :: ds, _, f, h, b, hb => by
    obtain ⟨v, r, f1, f2, h1, h2, h3, h4⟩ := h
    rw [h4] at hb
    by_cases q : 0 < f1 b
    · exact RepO.there d v f1 h2 b q
    · exact RepOs.there ds r f2 h3 b (by omega)
end

mutual
theorem RepO.fz (e : Same F F') : ∀ (d : D) (v : V) (f : Ct), (∀ a, 0 < f a → F' a = H a) → RepO K ca F H d v f → Rep K ca F' (freeze d) v
  | .lst true ds, v, f, k, h => by
    obtain ⟨a, vs, g, h1, h2, h3, h4⟩ := h
    exact ⟨a, vs, h1, (k a (by rw [h4, if_pos rfl]; omega)).trans h2, RepOs.fz e ds vs g (fun b hb => k b (by rw [h4]; omega)) h3⟩
  | .obj true c ns ds, v, f, k, h => by
    obtain ⟨a, dx, fs, vs, g, h1, h2, h5, h6, h3, h4⟩ := h
    exact ⟨a, dx, fs, vs, h1, (k a (by rw [h4, if_pos rfl]; omega)).trans h2, h5, h6, RepOs.fz e ds vs g (fun b hb => k b (by rw [h4]; omega)) h3⟩
  | .lst false ds, v, f, k, h => Rep.mono e _ _ h.1
  | .obj false c ns ds, v, f, k, h => Rep.mono e _ _ h.1
  | .non, v, f, k, h => Rep.mono e _ _ h.1
  | .bl _, v, f, k, h => Rep.mono e _ _ h.1
  | .int _, v, f, k, h => Rep.mono e _ _ h.1
  | .str _, v, f, k, h => Rep.mono e _ _ h.1
  | .ty _, v, f, k, h => Rep.mono e _ _ h.1
  | .tup _, v, f, k, h => Rep.mono e _ _ h.1
  | .cst _, v, f, k, h => Rep.mono e _ _ h.1
theorem RepOs.fz (e : Same F F') : ∀ (ds : List D) (vs : List V) (f : Ct), (∀ a, 0 < f a → F' a = H a) → RepOs K ca F H ds vs f → RepL K ca F' (freezeL ds) vs
  | [], _, _, _, h => h.1
  | d :: ds, _, f, k, h => by
    obtain ⟨v, r, f1, f2, h1, h2, h3, h4⟩ := h
    exact ⟨v, r, h1, RepO.fz e d v f1 (fun b hb => k b (by rw [h4]; omega)) h2, RepOs.fz e ds r f2 (fun b hb => k b (by rw [h4]; omega)) h3⟩
end

theorem RepL.length : ∀ {ds : List D} {vs : List V}, RepL K ca F ds vs → vs.length = ds.length
  | [], _, h => by have h : _ = [] := h; rw [h]; rfl
  | _ :: _, _, ⟨v, r, h1, h2, h3⟩ => by rw [h1, List.length_cons, List.length_cons, h3.length]
theorem RepOs.length : ∀ {ds : List D} {vs : List V} {f : Ct}, RepOs K ca F H ds vs f → vs.length = ds.length
  | [], _, _, h => by rw [h.1]; rfl
  | _ :: _, _, _, ⟨v, r, _, _, h1, h2, h3, _⟩ => by rw [h1, List.length_cons, List.length_cons, h3.length]
theorem RepL.get : ∀ {ds : List D} {vs : List V} {i : Nat} {d : D}, RepL K ca F ds vs → ds[i]? = some d → ∃ v, vs[i]? = some v ∧ Rep K ca F d v
  | [], _, _, _, _, e => by simp at e
  | d :: _, _, 0, _, ⟨v, r, h1, h2, h3⟩, e => by simp at e; subst e; subst h1; exact ⟨v, rfl, h2⟩
  | _ :: _, _, i + 1, d, ⟨v, r, h1, h2, h3⟩, e => by subst h1; simpa using h3.get (i := i) (by simpa using e)
theorem RepOs.get : ∀ {ds : List D} {vs : List V} {f : Ct} {i : Nat} {d : D}, RepOs K ca F H ds vs f → ds[i]? = some d → ∃ v g, vs[i]? = some v ∧ RepO K ca F H d v g
  | [], _, _, _, _, _, e => by simp at e
  | d :: _, _, _, 0, _, ⟨v, r, f1, f2, h1, h2, h3, _⟩, e => by simp at e; subst e; subst h1; exact ⟨v, f1, rfl, h2⟩
  | _ :: _, _, _, i + 1, d, ⟨v, r, f1, f2, h1, h2, h3, _⟩, e => by subst h1; simpa using h3.get (i := i) (by simpa using e)
theorem RepOs.append : ∀ {ds es : List D} {vs us : List V} {f g : Ct}, RepOs K ca F H ds vs f → RepOs K ca F H es us g → RepOs K ca F H (ds ++ es) (vs ++ us) (fun b => f b + g b)
  | [], es, _, us, f, g, h, k => by
    obtain ⟨rfl, h2⟩ := h
    have e : (fun b => f b + g b) = g := funext fun b => by rw [h2]; omega
    rw [e]; exact k
  | _ :: _, _, _, _, f, g, ⟨v, r, f1, f2, h1, h2, h3, h4⟩, k => by
    subst h1
    exact ⟨v, _, f1, _, rfl, h2, h3.append k, fun b => by show f b + g b = f1 b + (f2 b + g b); rw [h4]; omega⟩
theorem RepOs.split : ∀ {ds es : List D} {ws : List V} {f : Ct}, RepOs K ca F H (ds ++ es) ws f → ∃ vs us g1 g2, ws = vs ++ us ∧ RepOs K ca F H ds vs g1 ∧ RepOs K ca F H es us g2 ∧ ∀ b, f b = g1 b + g2 b
  | [], es, ws, f, h => ⟨[], ws, fun _ => 0, f, rfl, ⟨rfl, fun _ => rfl⟩, h, fun b => by show f b = 0 + f b; omega⟩
  | _ :: _, _, _, f, ⟨v, r, f1, f2, h1, h2, h3, h4⟩ => by
    obtain ⟨vs, us, g1, g2, e, k1, k2, k3⟩ := RepOs.split h3
    subst h1; subst e
    exact ⟨v :: vs, us, fun b => f1 b + g1 b, g2, rfl, ⟨v, vs, f1, g1, rfl, h2, k1, fun _ => rfl⟩, k2, fun b => by show f b = (f1 b + g1 b) + g2 b; rw [h4, k3]; omega⟩
theorem RepOs.split' {ds es : List D} {vs us : List V} {f : Ct} (h : RepOs K ca F H (ds ++ es) (vs ++ us) f) (hl : vs.length = ds.length) : ∃ g1 g2, RepOs K ca F H ds vs g1 ∧ RepOs K ca F H es us g2 ∧ ∀ b, f b = g1 b + g2 b := by
  obtain ⟨vs', us', g1, g2, e, k1, k2, k3⟩ := h.split
  have hl' := k1.length
  obtain ⟨rfl, rfl⟩ := List.append_inj e (by omega)
  exact ⟨g1, g2, k1, k2, k3⟩
end

/-! ### the slots -/
section
variable (K : PySem.W.Frag) (ca : Str → Addr) (F H : Hp)
def Sl : Env → L2.St → Ct → Prop
  | [], σ, f => σ = [] ∧ ∀ b, f b = 0
  | none :: τ, σ, f => ∃ x r, σ = x :: r ∧ Sl τ r f
  | some d :: τ, σ, f => ∃ v r f1 f2, σ = some v :: r ∧ RepO K ca F H d v f1 ∧ Sl τ r f2 ∧ ∀ b, f b = f1 b + f2 b
end
section
variable {K : PySem.W.Frag} {ca : Str → Addr} {F F' H H' : Hp}
theorem Sl.mono (e : Same F F') : ∀ {τ : Env} {σ : L2.St} {f : Ct}, (∀ a, 0 < f a → H' a = H a) → Sl K ca F H τ σ f → Sl K ca F' H' τ σ f
  | [], _, _, _, h => h
  | none :: _, _, _, k, ⟨x, r, h1, h2⟩ => ⟨x, r, h1, Sl.mono e k h2⟩
  | some _ :: _, _, f, k, ⟨v, r, f1, f2, h1, h2, h3, h4⟩ => ⟨v, r, f1, f2, h1, RepO.mono e _ _ _ (fun b hb => k b (by rw [h4]; omega)) h2, Sl.mono e (fun b hb => k b (by rw [h4]; omega)) h3, h4⟩
theorem Sl.there : ∀ {τ : Env} {σ : L2.St} {f : Ct}, Sl K ca F H τ σ f → ∀ a, 0 < f a → H a ≠ none
  | [], _, _, h, b, hb => by rw [h.2] at hb; omega
  | none :: _, _, _, ⟨x, r, h1, h2⟩, b, hb => Sl.there h2 b hb
  | some _ :: _, _, f, ⟨v, r, f1, f2, h1, h2, h3, h4⟩, b, hb => by
    rw [h4] at hb
    by_cases q : 0 < f1 b
    · exact RepO.there _ v f1 h2 b q
    · exact Sl.there h3 b (by omega)
theorem Sl.length : ∀ {τ : Env} {σ : L2.St} {f : Ct}, Sl K ca F H τ σ f → σ.length = τ.length
  | [], _, _, h => by rw [h.1]; rfl
  | none :: _, _, _, ⟨x, r, h1, h2⟩ => by rw [h1, List.length_cons, List.length_cons, Sl.length h2]
  | some _ :: _, _, f, ⟨v, r, f1, f2, h1, h2, h3, h4⟩ => by rw [h1, List.length_cons, List.length_cons, Sl.length h3]
theorem Sl.get : ∀ {τ : Env} {σ : L2.St} {f : Ct} {i : Nat} {d : D}, Sl K ca F H τ σ f → τ[i]? = some (some d) → ∃ v g, σ[i]? = some (some v) ∧ RepO K ca F H d v g
  | [], _, _, _, _, _, e => by simp at e
  | none :: _, _, _, 0, _, _, e => by simp at e
  | none :: _, _, _, i + 1, _, ⟨x, r, h1, h2⟩, e => by subst h1; simpa using Sl.get (i := i) h2 (by simpa using e)
  | some _ :: _, _, _, 0, _, ⟨v, r, f1, f2, h1, h2, h3, h4⟩, e => by simp at e; subst e; subst h1; exact ⟨v, f1, rfl, h2⟩
  | some _ :: _, _, _, i + 1, _, ⟨v, r, f1, f2, h1, h2, h3, h4⟩, e => by subst h1; simpa using Sl.get (i := i) h3 (by simpa using e)
/-- a slot gives away what it has -/
theorem Sl.take : ∀ {τ : Env} {σ : L2.St} {f : Ct} {i : Nat} {d : D}, Sl K ca F H τ σ f → τ[i]? = some (some d) → ∃ v g1 g2, σ[i]? = some (some v) ∧ RepO K ca F H d v g1 ∧ Sl K ca F H (τ.set i none) σ g2 ∧ ∀ b, f b = g1 b + g2 b
  | [], _, _, _, _, _, e => by simp at e
  | none :: _, _, _, 0, _, _, e => by simp at e
  | none :: _, _, _, i + 1, _, ⟨x, r, h1, h2⟩, e => by
    subst h1
    obtain ⟨v, g1, g2, k1, k2, k3, k4⟩ := Sl.take (i := i) h2 (by simpa using e)
    exact ⟨v, g1, g2, by simpa using k1, k2, ⟨x, r, rfl, k3⟩, k4⟩
  | some _ :: _, _, _, 0, _, ⟨v, r, f1, f2, h1, h2, h3, h4⟩, e => by simp at e; subst e; subst h1; exact ⟨v, f1, f2, rfl, h2, ⟨_, r, rfl, h3⟩, h4⟩
  | some _ :: _, _, f, i + 1, _, ⟨v, r, f1, f2, h1, h2, h3, h4⟩, e => by
    subst h1
    obtain ⟨v', g1, g2, k1, k2, k3, k4⟩ := Sl.take (i := i) h3 (by simpa using e)
    exact ⟨v', g1, fun b => f1 b + g2 b, by simpa using k1, k2, ⟨v, r, f1, g2, rfl, h2, k3, fun _ => rfl⟩, fun b => by show f b = g1 b + (f1 b + g2 b); rw [h4, k4]; omega⟩
/-- a slot takes a value -/
theorem Sl.put : ∀ {τ : Env} {σ : L2.St} {f : Ct} {i : Nat} {d : D} {v : V} {g : Ct}, Sl K ca F H τ σ f → i < τ.length → RepO K ca F H d v g → ∃ f2, Sl K ca F H (τ.set i (some d)) (σ.set i (some v)) f2 ∧ ∀ b, f2 b ≤ f b + g b
  | [], _, _, _, _, _, _, _, e, _ => by simp at e
  | none :: _, _, f, 0, _, v, g, ⟨x, r, h1, h2⟩, e, hv => by subst h1; exact ⟨fun b => g b + f b, ⟨v, r, g, f, rfl, hv, h2, fun _ => rfl⟩, fun b => by show g b + f b ≤ f b + g b; omega⟩
  | none :: _, _, f, i + 1, _, v, g, ⟨x, r, h1, h2⟩, e, hv => by
    subst h1
    obtain ⟨f2, k1, k2⟩ := Sl.put (i := i) h2 (by simpa using e) hv
    exact ⟨f2, ⟨x, _, rfl, k1⟩, k2⟩
  | some _ :: _, _, f, 0, _, v, g, ⟨w, r, f1, f2, h1, h2, h3, h4⟩, e, hv => by subst h1; exact ⟨fun b => g b + f2 b, ⟨v, r, g, f2, rfl, hv, h3, fun _ => rfl⟩, fun b => by show g b + f2 b ≤ f b + g b; rw [h4]; omega⟩
  | some _ :: _, _, f, i + 1, _, v, g, ⟨w, r, f1, f2, h1, h2, h3, h4⟩, e, hv => by
    subst h1
    obtain ⟨f3, k1, k2⟩ := Sl.put (i := i) h3 (by simpa using e) hv
    exact ⟨fun b => f1 b + f3 b, ⟨w, _, f1, f3, rfl, h2, k1, fun _ => rfl⟩, fun b => by show f1 b + f3 b ≤ f b + g b; have := k2 b; rw [h4]; omega⟩
/-- a slot forgets what it has -/
theorem Sl.drop : ∀ {τ : Env} {σ : L2.St} {f : Ct} {i : Nat}, Sl K ca F H τ σ f → ∃ f2, Sl K ca F H (τ.set i none) σ f2 ∧ ∀ b, f2 b ≤ f b := fun {τ σ f i} h => by
  cases e : τ[i]? with
  | none => rw [List.set_eq_of_length_le (by simpa using e)]; exact ⟨f, h, fun _ => Nat.le_refl _⟩
  | some x =>
    cases x with
    | none =>
      have : τ.set i none = τ := by
        apply List.ext_getElem?
        intro j
        rw [List.getElem?_set]
        split
        · rename_i q; subst q; split
          · exact e.symm
          · rename_i hl; rw [List.getElem?_eq_none (by omega)]
        · rfl
      rw [this]; exact ⟨f, h, fun _ => Nat.le_refl _⟩
    | some d =>
      obtain ⟨v, g1, g2, _, _, k, q⟩ := h.take e
      exact ⟨g2, k, fun b => by rw [q]; omega⟩
end

/-! ### the state -/
/-- what is fixed while a def's body runs: the classes' places, the unchanging part and the rest of the heap at its entry, the parameters that are handed to be changed -/
structure Bx where
  ca : Str → Addr
  F0 : Hp
  R : Hp
  io : List (Nat × V)
structure Wd (B : Bx) (F H : Hp) (f : Ct) : Prop where
  nd : ∀ a, f a ≤ 1
  dF : ∀ a, 0 < f a → F a = none
  dR : ∀ a, 0 < f a → B.R a = none
  sF : Same F H
  sR : Same B.R H
  s0 : Same B.F0 F
  fr : ∀ a, F a ≠ none → B.F0 a ≠ none ∨ B.R a = none
def IoOk (B : Bx) (σ : L2.St) : Prop := ∀ p ∈ B.io, σ[p.1]? = some (some p.2)
def StT (K : PySem.W.Frag) (B : Bx) (F H : Hp) (σ : L2.St) (τ : Env) (vs : List V) (ds : List D) : Prop :=
  ∃ f1 f2, Sl K B.ca F H τ σ f1 ∧ RepOs K B.ca F H ds vs f2 ∧ Wd B F H (fun b => f1 b + f2 b) ∧ IoOk B σ

theorem Wd.less {B : Bx} {F H : Hp} {f g : Ct} (w : Wd B F H f) (h : ∀ b, g b ≤ f b) : Wd B F H g :=
  ⟨fun a => Nat.le_trans (h a) (w.nd a), fun a q => w.dF a (Nat.lt_of_lt_of_le q (h a)), fun a q => w.dR a (Nat.lt_of_lt_of_le q (h a)), w.sF, w.sR, w.s0, w.fr⟩

theorem same_upd {H : Hp} {p : Addr} {o : HO} (h : H p = none) : Same H (upd H p o) := fun b x e => by
  rw [upd_ne (ne_of_none e h)]
  exact e
/-- something new, unowned, that never changes -/
theorem Wd.frozen {B : Bx} {F H : Hp} {f : Ct} {p : Addr} {o : HO} (w : Wd B F H f) (hp : H p = none) : Wd B (upd F p o) (upd H p o) (fun a => if a = p then 0 else f a) := by
  have hF : F p = none := by
    cases e : F p with
    | none => rfl
    | some x => rw [w.sF _ _ e] at hp; cases hp
  have hR : B.R p = none := by
    cases e : B.R p with
    | none => rfl
    | some x => rw [w.sR _ _ e] at hp; cases hp
  refine ⟨fun a => ?_, fun a q => ?_, fun a q => ?_, fun b x e => ?_, fun b x e => ?_, fun b x e => ?_, fun a q => ?_⟩
  · show (if a = p then 0 else f a) ≤ 1
    split
    · omega
    · exact w.nd a
  · have q : 0 < (if a = p then 0 else f a) := q
    split at q
    · omega
    · rw [upd_ne (by assumption)]; exact w.dF a q
  · have q : 0 < (if a = p then 0 else f a) := q
    split at q
    · omega
    · exact w.dR a q
  · by_cases h : b = p
    · subst h; rw [upd_same] at e ⊢; exact e
    · rw [upd_ne h] at e ⊢; exact w.sF b x e
  · rw [upd_ne (ne_of_none (w.sR b x e) hp)]; exact w.sR b x e
  · rw [upd_ne (ne_of_none (w.s0 b x e) hF)]; exact w.s0 b x e
  · by_cases h : a = p
    · subst h; exact .inr hR
    · rw [upd_ne h] at q; exact w.fr a q
/-- something new that is owned -/
theorem Wd.owned {B : Bx} {F H : Hp} {f : Ct} {p : Addr} {o : HO} (w : Wd B F H f) (hp : H p = none) (hf : f p = 0) : Wd B F (upd H p o) (fun a => (if a = p then 1 else 0) + f a) := by
  have hF : F p = none := by
    cases e : F p with
    | none => rfl
    | some x => rw [w.sF _ _ e] at hp; cases hp
  have hR : B.R p = none := by
    cases e : B.R p with
    | none => rfl
    | some x => rw [w.sR _ _ e] at hp; cases hp
  refine ⟨fun a => ?_, fun a q => ?_, fun a q => ?_, fun b x e => ?_, fun b x e => ?_, w.s0, w.fr⟩
  · show (if a = p then 1 else 0) + f a ≤ 1
    split
    · rename_i h; rw [h, hf]; omega
    · have := w.nd a; omega
  · have q : 0 < (if a = p then 1 else 0) + f a := q
    split at q
    · rename_i h; rw [h]; exact hF
    · exact w.dF a (by omega)
  · have q : 0 < (if a = p then 1 else 0) + f a := q
    split at q
    · rename_i h; rw [h]; exact hR
    · exact w.dR a (by omega)
  · rw [upd_ne (ne_of_none (w.sF b x e) hp)]; exact w.sF b x e
  · rw [upd_ne (ne_of_none (w.sR b x e) hp)]; exact w.sR b x e

/-- what is owned by es is given up: the unchanging part grows by it -/
def grow (F H : Hp) (f : Ct) : Hp := fun a => if 0 < f a then H a else F a
theorem same_grow {B : Bx} {F H : Hp} {f g : Ct} (w : Wd B F H f) (h : ∀ b, g b ≤ f b) : Same F (grow F H g) := fun b x e => by
  unfold grow
  split
  · rename_i q; rw [w.dF b (Nat.lt_of_lt_of_le q (h b))] at e; cases e
  · exact e
theorem Wd.give {B : Bx} {F H : Hp} {f g r : Ct} (w : Wd B F H f) (h : ∀ b, f b = g b + r b) : Wd B (grow F H g) H r := by
  refine ⟨fun a => by have := w.nd a; have := h a; omega, fun a q => ?_, fun a q => w.dR a (by rw [h]; omega), fun b x e => ?_, w.sR, fun b x e => (same_grow w fun b => by rw [h]; omega) b x (w.s0 b x e), fun a q => ?_⟩
  · unfold grow
    have := w.nd a; have := h a
    rw [if_neg (by omega)]
    exact w.dF a (by omega)
  · unfold grow at e
    split at e
    · exact e
    · exact w.sF b x e
  · unfold grow at q
    split at q
    · exact .inr (w.dR a (by rw [h]; omega))
    · exact w.fr a q

section
variable {K : PySem.W.Frag} {B : Bx} {F H : Hp} {σ : L2.St} {τ : Env} {vs us : List V} {ds es : List D} {v : V} {d : D}
theorem StT.push (s : StT K B F H σ τ vs ds) (h : Rep K B.ca F d v) : StT K B F H σ τ (v :: vs) (d :: ds) := by
  obtain ⟨f1, f2, a, b, w, io⟩ := s
  exact ⟨f1, f2, a, ⟨v, vs, _, f2, rfl, h.o, b, fun _ => by omega⟩, w, io⟩
theorem StT.pop (s : StT K B F H σ τ (v :: vs) (d :: ds)) : StT K B F H σ τ vs ds := by
  obtain ⟨f1, f2, a, ⟨_, _, g1, g2, e, _, b, q⟩, w, io⟩ := s
  cases e
  exact ⟨f1, g2, a, b, w.less fun b => by show f1 b + g2 b ≤ f1 b + f2 b; rw [q]; omega, io⟩
theorem StT.pops (s : StT K B F H σ τ (us ++ vs) (es ++ ds)) (hl : us.length = es.length) : StT K B F H σ τ vs ds := by
  obtain ⟨f1, f2, a, b, w, io⟩ := s
  obtain ⟨g1, g2, _, b, q⟩ := b.split' hl
  exact ⟨f1, g2, a, b, w.less fun b => by show f1 b + g2 b ≤ f1 b + f2 b; rw [q]; omega, io⟩
theorem StT.top (s : StT K B F H σ τ (v :: vs) (d :: ds)) : ∃ f, RepO K B.ca F H d v f := by
  obtain ⟨f1, f2, a, ⟨_, _, g1, g2, e, h, b, q⟩, w, io⟩ := s
  cases e
  exact ⟨_, h⟩
theorem StT.tops (s : StT K B F H σ τ (us ++ vs) (es ++ ds)) (hl : us.length = es.length) : ∃ f, RepOs K B.ca F H es us f := by
  obtain ⟨f1, f2, a, b, w, io⟩ := s
  obtain ⟨g1, g2, h, b, q⟩ := b.split' hl
  exact ⟨_, h⟩
theorem StT.topF (s : StT K B F H σ τ (v :: vs) (d :: ds)) (h : isFz d = true) : Rep K B.ca F d v := by
  obtain ⟨f, q⟩ := s.top
  exact ((repO_fz h).mp q).1
/-- the items on top change places with the one below -/
theorem StT.swap (s : StT K B F H σ τ (us ++ v :: vs) (es ++ d :: ds)) (hl : us.length = es.length) : StT K B F H σ τ (v :: us ++ vs) (d :: es ++ ds) := by
  obtain ⟨f1, f2, a, b, w, io⟩ := s
  obtain ⟨g1, g2, b1, ⟨_, _, g3, g4, e, b2, b3, q2⟩, q⟩ := b.split' hl
  cases e
  exact ⟨f1, f2, a, ⟨v, us ++ vs, g3, _, rfl, b2, b1.append b3, fun b => by rw [q, q2]; omega⟩, w, io⟩
theorem StT.same (s : StT K B F H σ τ vs ds) : Same F H := by
  obtain ⟨f1, f2, a, b, w, io⟩ := s
  exact w.sF
theorem StT.get {i : Nat} (s : StT K B F H σ τ vs ds) (e : τ[i]? = some (some d)) : ∃ v f, σ[i]? = some (some v) ∧ RepO K B.ca F H d v f := by
  obtain ⟨f1, f2, a, b, w, io⟩ := s
  exact a.get e
theorem StT.take {i : Nat} (s : StT K B F H σ τ vs ds) (e : τ[i]? = some (some d)) : ∃ v, σ[i]? = some (some v) ∧ StT K B F H σ (τ.set i none) (v :: vs) (d :: ds) := by
  obtain ⟨f1, f2, a, b, w, io⟩ := s
  obtain ⟨v, g1, g2, e1, h1, h2, q⟩ := a.take e
  refine ⟨v, e1, g2, fun b => g1 b + f2 b, h2, ⟨v, vs, g1, f2, rfl, h1, b, fun _ => rfl⟩, ?_, io⟩
  have e2 : (fun b => g2 b + (g1 b + f2 b)) = fun b => f1 b + f2 b := funext fun b => by rw [q]; omega
  rw [e2]; exact w
/-- free: is slot i none of the parameters that are handed to be changed -/
def ioFree (B : Bx) (i : Nat) : Prop := ∀ p ∈ B.io, p.1 ≠ i
theorem StT.put {i : Nat} (s : StT K B F H σ τ (v :: vs) (d :: ds)) (hi : i < τ.length) (hf : ioFree B i) : StT K B F H (σ.set i (some v)) (τ.set i (some d)) vs ds := by
  obtain ⟨f1, f2, a, ⟨_, _, g1, g2, e, h, b, q⟩, w, io⟩ := s
  cases e
  obtain ⟨f3, k1, k2⟩ := a.put hi h
  refine ⟨f3, g2, k1, b, w.less fun b => by show f3 b + g2 b ≤ f1 b + f2 b; have := k2 b; rw [q]; omega, fun p hp => ?_⟩
  rw [List.getElem?_set_ne (Ne.symm (hf p hp))]
  exact io p hp
theorem StT.putBack {i : Nat} (s : StT K B F H σ τ (v :: vs) (d :: ds)) (hi : i < τ.length) (hv : σ[i]? = some (some v)) : StT K B F H σ (τ.set i (some d)) vs ds := by
  obtain ⟨f1, f2, a, ⟨_, _, g1, g2, e, h, b, q⟩, w, io⟩ := s
  cases e
  obtain ⟨f3, k1, k2⟩ := a.put hi h
  have e1 : σ.set i (some v) = σ := by
    apply List.ext_getElem?
    intro j
    rw [List.getElem?_set]
    split
    · rename_i q; subst q; split
      · exact hv.symm
      · rename_i hl; rw [List.getElem?_eq_none (by omega)]
    · rfl
  rw [e1] at k1
  exact ⟨f3, g2, k1, b, w.less fun b => by show f3 b + g2 b ≤ f1 b + f2 b; have := k2 b; rw [q]; omega, io⟩
theorem StT.forget {i : Nat} (s : StT K B F H σ τ vs ds) : StT K B F H σ (τ.set i none) vs ds := by
  obtain ⟨f1, f2, a, b, w, io⟩ := s
  obtain ⟨g, k, q⟩ := a.drop (i := i)
  exact ⟨g, f2, k, b, w.less fun b => by show g b + f2 b ≤ f1 b + f2 b; have := q b; omega, io⟩
/-- the items on top are given up to the unchanging part -/
theorem StT.freeze (s : StT K B F H σ τ (us ++ vs) (es ++ ds)) (hl : us.length = es.length) : ∃ F', Same F F' ∧ RepL K B.ca F' (freezeL es) us ∧ StT K B F' H σ τ vs ds := by
  obtain ⟨f1, f2, a, b, w, io⟩ := s
  obtain ⟨g1, g2, b1, b2, q⟩ := b.split' hl
  have le : ∀ b, g1 b ≤ f1 b + f2 b := fun b => by rw [q]; omega
  have sm : Same F (grow F H g1) := same_grow w le
  refine ⟨grow F H g1, sm, RepOs.fz sm _ _ _ (fun a h => by unfold grow; rw [if_pos h]) b1, f1, g2, a.mono sm fun _ _ => rfl, RepOs.mono sm _ _ _ (fun _ _ => rfl) b2, ?_, io⟩
  exact w.give (g := g1) (r := fun b => f1 b + g2 b) fun b => by show f1 b + f2 b = g1 b + (f1 b + g2 b); rw [q]; omega
theorem StT.new (s : StT K B F H σ τ vs ds) {p : Addr} {o : HO} (hp : H p = none) : StT K B (upd F p o) (upd H p o) σ τ vs ds ∧ Same F (upd F p o) := by
  obtain ⟨f1, f2, a, b, w, io⟩ := s
  have hF : F p = none := by
    cases e : F p with
    | none => rfl
    | some x => rw [w.sF _ _ e] at hp; cases hp
  have sm : Same F (upd F p o) := Bn.same_upd hF
  have k1 : ∀ x, 0 < f1 x → upd H p o x = H x := fun x hx => upd_ne fun e => a.there x hx (e ▸ hp)
  have k2 : ∀ x, 0 < f2 x → upd H p o x = H x := fun x hx => upd_ne fun e => b.there _ _ _ x hx (e ▸ hp)
  refine ⟨⟨f1, f2, a.mono sm k1, RepOs.mono sm _ _ _ k2 b, (w.frozen hp).less fun x => ?_, io⟩, sm⟩
  show f1 x + f2 x ≤ if x = p then 0 else f1 x + f2 x
  split
  · rename_i e
    have h1 : ¬ 0 < f1 x := fun h => a.there x h (e ▸ hp)
    have h2 : ¬ 0 < f2 x := fun h => b.there _ _ _ x h (e ▸ hp)
    omega
  · omega
theorem StT.newTup (s : StT K B F H σ τ vs ds) {p : Addr} (hp : H p = none) (h : RepL K B.ca F es us) : StT K B (upd F p (.tup us)) (upd H p (.tup us)) σ τ (.ref p :: vs) (.tup es :: ds) := by
  obtain ⟨s', sm⟩ := s.new (o := .tup us) hp
  exact s'.push ⟨p, us, rfl, .inl (.inl upd_same), RepL.mono sm _ _ h⟩
theorem StT.newLst (s : StT K B F H σ τ (us ++ vs) (es ++ ds)) (hl : us.length = es.length) {p : Addr} (hp : H p = none) : StT K B F (upd H p (.lst us)) σ τ (.ref p :: vs) (.lst true es :: ds) := by
  obtain ⟨f1, f2, a, b, w, io⟩ := s
  obtain ⟨g1, g2, b1, b2, q⟩ := b.split' hl
  have k1 : ∀ x, 0 < f1 x → upd H p (.lst us) x = H x := fun x hx => upd_ne fun e => a.there x hx (e ▸ hp)
  have k2 : ∀ x, 0 < g1 x → upd H p (.lst us) x = H x := fun x hx => upd_ne fun e => b1.there _ _ _ x hx (e ▸ hp)
  have k3 : ∀ x, 0 < g2 x → upd H p (.lst us) x = H x := fun x hx => upd_ne fun e => b2.there _ _ _ x hx (e ▸ hp)
  have z : f1 p + f2 p = 0 := by
    have h1 : ¬ 0 < f1 p := fun h => a.there p h hp
    have h2 : ¬ 0 < f2 p := fun h => b.there _ _ _ p h hp
    omega
  refine ⟨f1, fun b => ((if b = p then 1 else 0) + g1 b) + g2 b, a.mono (Same.refl _) k1, ⟨.ref p, vs, fun b => (if b = p then 1 else 0) + g1 b, g2, rfl, ⟨p, us, g1, rfl, upd_same, RepOs.mono (Same.refl _) _ _ _ k2 b1, fun _ => rfl⟩, RepOs.mono (Same.refl _) _ _ _ k3 b2, fun _ => rfl⟩, ?_, io⟩
  have e : (fun b => f1 b + (((if b = p then 1 else 0) + g1 b) + g2 b)) = fun b => (if b = p then 1 else 0) + (f1 b + f2 b) := funext fun b => by rw [q]; omega
  rw [e]
  exact w.owned hp z
/-- the list on top is changed; its new items are made of its old ones and of the items us below it -/
theorem StT.change {a : Addr} {xs ys : List V} {es' : List D} (s : StT K B F H σ τ (.ref a :: (us ++ vs)) (.lst true es :: (ds ++ es'))) (hl : us.length = ds.length) (hx : H a = some (.lst xs)) {es2 : List D}
    (k : ∀ g1 g2, RepOs K B.ca F H es xs g1 → RepOs K B.ca F H ds us g2 → ∃ g, RepOs K B.ca F H es2 ys g ∧ ∀ b, g b ≤ g1 b + g2 b) :
    StT K B F (upd H a (.lst ys)) σ τ (.ref a :: vs) (.lst true es2 :: es') := by
  obtain ⟨f1, f2, A, ⟨_, _, g1, g2, e, h, b, q⟩, w, io⟩ := s
  cases e
  obtain ⟨a', xs', g3, e', hx', h3, q3⟩ := h
  cases e'
  rw [hx] at hx'; cases hx'
  obtain ⟨g4, g5, b1, b2, q4⟩ := b.split' hl
  obtain ⟨g, hg, hle⟩ := k g3 g4 h3 b1
  have one := w.nd a
  have tot : ∀ b, f1 b + f2 b = f1 b + ((if b = a then 1 else 0) + g3 b + (g4 b + g5 b)) := fun b => by rw [q, q3, q4]
  have za : f1 a = 0 ∧ g3 a = 0 ∧ g4 a = 0 ∧ g5 a = 0 := by
    have := tot a
    rw [if_pos rfl] at this
    omega
  have off : ∀ {φ : Ct}, φ a = 0 → ∀ x, 0 < φ x → upd H a (.lst ys) x = H x := fun {φ} hz x hx => upd_ne fun e => by rw [e, hz] at hx; omega
  have zg : g a = 0 := by have := hle a; omega
  refine ⟨f1, fun b => ((if b = a then 1 else 0) + g b) + g5 b, A.mono (Same.refl _) (off za.1), ⟨.ref a, vs, fun b => (if b = a then 1 else 0) + g b, g5, rfl, ⟨a, ys, g, rfl, upd_same, RepOs.mono (Same.refl _) _ _ _ (off zg) hg, fun _ => rfl⟩,
    RepOs.mono (Same.refl _) _ _ _ (off za.2.2.2) b2, fun _ => rfl⟩, ?_, io⟩
  have w2 : Wd B F H (fun b => f1 b + (((if b = a then 1 else 0) + g b) + g5 b)) := w.less fun b => by
    show f1 b + (((if b = a then 1 else 0) + g b) + g5 b) ≤ f1 b + f2 b
    have := tot b; have := hle b; omega
  have fa : F a = none := w.dF a (by have := tot a; rw [if_pos rfl] at this; show 0 < f1 a + f2 a; omega)
  have ra : B.R a = none := w.dR a (by have := tot a; rw [if_pos rfl] at this; show 0 < f1 a + f2 a; omega)
  exact ⟨w2.nd, w2.dF, w2.dR, fun b x e => by rw [upd_ne (ne_of_none e fa)]; exact w.sF b x e, fun b x e => by rw [upd_ne (ne_of_none e ra)]; exact w.sR b x e, w.s0, w.fr⟩
/-- behind a call that left all as it was, and made something -/
theorem StT.called {F' H' : Hp} {g : Ct} (s : StT K B F H σ τ vs ds) (h1 : Same F F') (h2 : Same F' H') (h3 : Same H H') (hv : RepO K B.ca F' H' d v g) (h4 : ∀ a, g a ≤ 1) (h5 : ∀ a, 0 < g a → F' a = none ∧ H a = none)
    (h6 : ∀ a, F' a ≠ none → F a ≠ none ∨ H a = none) : StT K B F' H' σ τ (v :: vs) (d :: ds) := by
  obtain ⟨f1, f2, a, b, w, io⟩ := s
  have k : ∀ x, H x ≠ none → H' x = H x := fun x hx => by
    cases e : H x with
    | none => exact absurd e hx
    | some o => exact h3 _ _ e
  have t1 : ∀ x, 0 < f1 x → H x ≠ none := a.there
  have t2 : ∀ x, 0 < f2 x → H x ≠ none := b.there _ _ _
  refine ⟨f1, fun b => g b + f2 b, a.mono h1 fun x hx => k x (t1 x hx), ⟨v, vs, g, f2, rfl, hv, RepOs.mono h1 _ _ _ (fun x hx => k x (t2 x hx)) b, fun _ => rfl⟩, ?_, io⟩
  have split : ∀ x, 0 < f1 x + (g x + f2 x) → (0 < g x ∧ f1 x = 0 ∧ f2 x = 0) ∨ (g x = 0 ∧ 0 < f1 x + f2 x) := fun x hx => by
    by_cases q : 0 < g x
    · have hn := (h5 x q).2
      have : ¬ 0 < f1 x := fun h => t1 x h hn
      have : ¬ 0 < f2 x := fun h => t2 x h hn
      exact .inl ⟨q, by omega, by omega⟩
    · exact .inr ⟨by omega, by omega⟩
  have old : ∀ x, 0 < f1 x + f2 x → H x ≠ none := fun x hx => by
    by_cases q : 0 < f1 x
    · exact t1 x q
    · exact t2 x (by omega)
  refine ⟨fun x => ?_, fun x hx => ?_, fun x hx => ?_, h2, w.sR.trans h3, w.s0.trans h1, fun x hx => ?_⟩
  · show f1 x + (g x + f2 x) ≤ 1
    by_cases q : 0 < f1 x + (g x + f2 x)
    · rcases split x q with ⟨_, e1, e2⟩ | ⟨e1, _⟩
      · have := h4 x; omega
      · have := w.nd x; omega
    · omega
  · rcases split x hx with ⟨e0, _⟩ | ⟨_, e0⟩
    · exact (h5 x e0).1
    · have hF := w.dF x e0
      cases e : F' x with
      | none => rfl
      | some o =>
        rcases h6 x (by rw [e]; exact fun z => by cases z) with z | z
        · exact absurd hF z
        · exact absurd z (old x e0)
  · rcases split x hx with ⟨e0, _⟩ | ⟨_, e0⟩
    · cases e : B.R x with
      | none => rfl
      | some o => have z := (h5 x e0).2; rw [w.sR _ _ e] at z; cases z
    · exact w.dR x e0
  · rcases h6 x hx with z | z
    · exact w.fr x z
    · refine .inr ?_
      cases e : B.R x with
      | none => rfl
      | some o => rw [w.sR _ _ e] at z; cases z
/-- the heap has grown -/
theorem StT.grown {H' : Hp} (s : StT K B F H σ τ vs ds) (h : Same H H') : StT K B F H' σ τ vs ds := by
  obtain ⟨f1, f2, a, b, w, io⟩ := s
  have k : ∀ x, H x ≠ none → H' x = H x := fun x hx => by
    cases e : H x with
    | none => exact absurd e hx
    | some o => exact h _ _ e
  exact ⟨f1, f2, a.mono (Same.refl _) fun x hx => k x (a.there x hx), RepOs.mono (Same.refl _) _ _ _ (fun x hx => k x (b.there _ _ _ x hx)) b, ⟨w.nd, w.dF, w.dR, w.sF.trans h, w.sR.trans h, w.s0, w.fr⟩, io⟩
end
end Bn

/-! Readings by functions of trees. -/
namespace Bn
open PySem PySem.Spec PyProof.Rows L2

inductive R (α : Type) where
  | ok (a : α) (τ : Env) | ex (c : Str) (τ : Env) | bad
inductive SR where
  | nx (τ : Env) | rt (d : D) (τ : Env) | bk (τ : Env) | ct (τ : Env) | ex (c : Str) (τ : Env) | bad
inductive CR where
  | ok (d : D) | ex (c : Str) | bad
abbrev ME := Env → R D
abbrev MZ := Env → Option D
abbrev MT := Env → R Bool
abbrev MA := Env → R (List D)
abbrev MS := Env → SR

def R.bind {α β : Type} : R α → (α → Env → R β) → R β
  | .ok a τ, k => k a τ
  | .ex c τ, _ => .ex c τ
  | .bad, _ => .bad
def post {α : Type} (y : α → Env → Prop) (x : Str → Env → Prop) : R α → Prop
  | .ok a τ => y a τ
  | .ex c τ => x c τ
  | .bad => False
theorem post_bind {α β : Type} {y : β → Env → Prop} {x : Str → Env → Prop} {r : R α} {k : α → Env → R β} (h : post y x (r.bind k)) : post (fun a τ => post y x (k a τ)) x r := by
  cases r <;> exact h
theorem post_imp {α : Type} {y y' : α → Env → Prop} {x x' : Str → Env → Prop} {r : R α} (h : post y x r) (hy : ∀ a τ, y a τ → y' a τ) (hx : ∀ c τ, x c τ → x' c τ) : post y' x' r := by
  cases r with
  | ok a τ => exact hy _ _ h
  | ex c τ => exact hx _ _ h
  | bad => exact h

section
variable {X : Cx}
theorem PE.imp {e : Expr} {t t' : TE} (h : PE X e t) (k : ∀ σ H Q, t' σ H Q → t σ H Q) : PE X e t' := ⟨fun p s σ H Q I q => h.run p s σ H Q I (k _ _ _ q)⟩
theorem PT.imp {e : Expr} {t t' : TT} (h : PT X e t) (k : ∀ σ H Q, t' σ H Q → t σ H Q) : PT X e t' := ⟨fun p s σ H Q I q => h.run p s σ H Q I (k _ _ _ q)⟩
theorem PW.imp {e : Expr} {t t' : TT} (h : PW X e t) (k : ∀ σ H Q, t' σ H Q → t σ H Q) : PW X e t' := ⟨fun w p s σ H Q I q => h.run w p s σ H Q I (k _ _ _ q)⟩
theorem PA.imp {e : List Expr} {t t' : TA} (h : PA X e t) (k : ∀ σ H Q, t' σ H Q → t σ H Q) : PA X e t' := ⟨fun z p s σ H Q I q => h.run z p s σ H Q I (k _ _ _ q)⟩
theorem PS.imp {e : Stmt} {t t' : TS} (h : PS X e t) (k : ∀ D σ H, t' D σ H → t D σ H) : PS X e t' := ⟨fun p s σ H D I q => h.run p s σ H D I (k _ _ _ q)⟩
theorem PSs.imp {e : List Stmt} {t t' : TS} (h : PSs X e t) (k : ∀ D σ H, t' D σ H → t D σ H) : PSs X e t' := ⟨fun p s σ H D I q => h.run p s σ H D I (k _ _ _ q)⟩
theorem PG.imp {e : Expr} {t t' : TG} (h : PG X e t) (k : ∀ v σ H Q, t' v σ H Q → t v σ H Q) : PG X e t' := ⟨fun p s σ H v u Q I r q => h.run p s σ H v u Q I r (k _ _ _ _ q)⟩
theorem PGs.imp {e : List Expr} {t t' : TGs} (h : PGs X e t) (k : ∀ v σ H Q, t' v σ H Q → t v σ H Q) : PGs X e t' := ⟨fun p s σ H v u Q I r q => h.run p s σ H v u Q I r (k _ _ _ _ q)⟩
end

section
variable (K : PySem.W.Frag) (B : Bx) (W : WX)
def exW (σ : L2.St) (vs : List V) (ds : List D) : Str → Env → Prop := fun c τ' => ∀ F' H', StT K B F' H' σ τ' vs ds → W (.ref (B.ca c)) none σ H'
def rdE (m : ME) : TE := fun σ H Q => ∃ F τ vs ds, StT K B F H σ τ vs ds ∧ post (fun d τ' => ∀ v F' H', StT K B F' H' σ τ' (v :: vs) (d :: ds) → Q v H') (exW K B W σ vs ds) (m τ)
def rdA (m : MA) : TA := fun σ H Q => ∃ F τ vs ds, StT K B F H σ τ vs ds ∧ post (fun es τ' => ∀ us F' H', us.length = es.length → StT K B F' H' σ τ' (us ++ vs) (es ++ ds) → Q us H') (exW K B W σ vs ds) (m τ)
def rdT (m : MT) : TT := fun σ H Q => ∃ F τ vs ds, StT K B F H σ τ vs ds ∧ post (fun b τ' => ∀ F' H', StT K B F' H' σ τ' vs ds → Q b H') (exW K B W σ vs ds) (m τ)
def rdZ (m : MZ) : TE := fun σ H Q => ∃ F τ vs ds, StT K B F H σ τ vs ds ∧ ∃ d, m τ = some d ∧ ∀ v f, RepO K B.ca F H d v f → Q v H
def postS (vs : List V) (ds : List D) (D : Ends) : SR → Prop
  | .nx τ => ∀ σ F H, StT K B F H σ τ vs ds → D.nx σ H
  | .rt d τ => ∀ v σ F H, StT K B F H σ τ (v :: vs) (d :: ds) → D.rt v H
  | .bk τ => ∀ σ F H, StT K B F H σ τ vs ds → D.bk σ H
  | .ct τ => ∀ σ F H, StT K B F H σ τ vs ds → D.ct σ H
  | .ex c τ => ∀ σ F H, StT K B F H σ τ vs ds → W (.ref (B.ca c)) none σ H
  | .bad => False
def rdS (m : MS) : TS := fun D σ H => ∃ F τ vs ds, StT K B F H σ τ vs ds ∧ postS K B W vs ds D (m τ)
/-- a target; sl: the slots that it sets -/
def rdG (sl : List Nat) (g : D → Env → Option Env) : TG := fun v σ H Q => ∃ F τ vs ds d, StT K B F H σ τ (v :: vs) (d :: ds) ∧ ∃ τ', g d τ = some τ' ∧
  ∀ σ' F' H', StT K B F' H' σ' τ' vs ds → σ'.length = σ.length → (∀ j, j ∉ sl → σ'[j]? = σ[j]?) → Q σ' H'
def rdGs (sl : List Nat) (g : List D → Env → Option Env) : TGs := fun ws σ H Q => ∃ F τ vs ds es, ws.length = es.length ∧ StT K B F H σ τ (ws ++ vs) (es ++ ds) ∧ ∃ τ', g es τ = some τ' ∧
  ∀ σ' F' H', StT K B F' H' σ' τ' vs ds → σ'.length = σ.length → (∀ j, j ∉ sl → σ'[j]? = σ[j]?) → Q σ' H'
end

/-! ### names and constants -/
def zVar (i : Nat) : MZ := fun τ => τ.getD i none
def zC (d : D) : MZ := fun _ => some d
theorem getD_some {τ : Env} {i : Nat} {d : D} (h : τ.getD i none = some d) : τ[i]? = some (some d) := by
  rw [List.getD_eq_getElem?_getD] at h
  cases e : τ[i]? with
  | none => rw [e] at h; cases h
  | some x => rw [e] at h; exact congrArg some h
section
variable {X : Cx} {B : Bx} {W : WX}
theorem z_var {i : Nat} {e : Expr} (h : PE X e (tVar i)) : PE X e (rdZ X.K B (zVar i)) := PE.imp h fun σ H Q ⟨F, τ, vs, ds, s, d, e, k⟩ => by
  obtain ⟨v, f, h1, h2⟩ := s.get (getD_some e)
  exact ⟨v, h1, k v f h2⟩
theorem z_c {e : Expr} {d : D} {v : V} (h : PE X e (tC v)) (hd : ∀ F, Rep X.K B.ca F d v) : PE X e (rdZ X.K B (zC d)) := PE.imp h fun σ H Q ⟨F, τ, vs, ds, s, d', e, k⟩ => by
  cases (show some d = some d' from e)
  exact k v _ (hd F).o
theorem z_int {i j pos} : PE X (.Constant (.int i) j pos) (rdZ X.K B (zC (.int i))) := z_c pe_int fun _ => rfl
theorem z_bl {b j pos} : PE X (.Constant (.bool b) j pos) (rdZ X.K B (zC (.bl b))) := z_c pe_bl fun _ => rfl
theorem z_non {j pos} : PE X (.Constant .none j pos) (rdZ X.K B (zC .non)) := z_c pe_non fun _ => rfl
theorem z_str {x j pos} : PE X (.Constant (.str x) j pos) (rdZ X.K B (zC (.str x))) := z_c pe_str fun _ => rfl
theorem z_ty {x : Str} {n : String} {pos : Pos} (hg : Gl X x) (hm : X.mg x = none) (hv : bootBuiltins x = some (.type n)) (hn : x ≠ "__name__" := by decide) (hd : (x == ("__debug__" : Str)) = false := by decide) : PE X (.Name x pos) (rdZ X.K B (zC (.ty n))) :=
  z_c (pe_bltn (v := .ty n) hg hm hv rfl hn hd) fun _ => rfl

/-! ### from Z to E -/
def eZ (m : MZ) : ME := fun τ => match m τ with
  | some d => if isFz d = true then .ok d τ else .bad
  | none => .bad
theorem e_z {e : Expr} {m : MZ} (h : PE X e (rdZ X.K B m)) : PE X e (rdE X.K B W (eZ m)) := PE.imp h fun σ H Q ⟨F, τ, vs, ds, s, k⟩ => by
  unfold eZ at k
  cases e : m τ with
  | none => rw [e] at k; exact k.elim
  | some d =>
    rw [e] at k
    by_cases z : isFz d = true
    · simp only [z, if_true] at k
      exact ⟨F, τ, vs, ds, s, d, e, fun v f r => k v F H (s.push ((repO_fz z).mp r).1)⟩
    · simp only [z] at k
      exact k.elim
/-- a name's value; what it owns is given up -/
def eVar (i : Nat) : ME := fun τ => match τ.getD i none with
  | some d => if isFz d = true then .ok d τ else .ok (freeze d) (τ.set i (some (freeze d)))
  | none => .bad
theorem e_var {i : Nat} {e : Expr} (h : PE X e (tVar i)) : PE X e (rdE X.K B W (eVar i)) := PE.imp h fun σ H Q ⟨F, τ, vs, ds, s, k⟩ => by
  unfold eVar at k
  cases e : τ.getD i none with
  | none => rw [e] at k; exact k.elim
  | some d =>
    rw [e] at k
    have e' := getD_some e
    by_cases z : isFz d = true
    · simp only [z, if_true] at k
      obtain ⟨v, f, h1, h2⟩ := s.get e'
      exact ⟨v, h1, k v F H (s.push ((repO_fz z).mp h2).1)⟩
    · simp only [z] at k
      obtain ⟨v, h1, s1⟩ := s.take e'
      obtain ⟨F', sm, ⟨_, _, e2, r, _⟩, s2⟩ := StT.freeze (us := [v]) (es := [d]) s1 rfl
      cases e2
      have s3 := StT.putBack (s2.push r) (i := i) (by rw [List.length_set]; exact (List.getElem?_eq_some_iff.mp e').1) h1
      rw [List.set_set] at s3
      exact ⟨v, h1, k v F' H (s3.push r)⟩
/-- a name gives its value away -/
def eMv (i : Nat) : ME := fun τ => match τ.getD i none with
  | some d => .ok d (τ.set i none)
  | none => .bad
theorem e_mv {i : Nat} {e : Expr} (h : PE X e (tVar i)) : PE X e (rdE X.K B W (eMv i)) := PE.imp h fun σ H Q ⟨F, τ, vs, ds, s, k⟩ => by
  unfold eMv at k
  cases e : τ.getD i none with
  | none => rw [e] at k; exact k.elim
  | some d =>
    rw [e] at k
    obtain ⟨v, h1, s1⟩ := s.take (getD_some e)
    exact ⟨v, h1, k v F H s1⟩

/-! ### operators by values -/
def OpS (K : PySem.W.Frag) (r : R2) (g : D → D → Option D) : Prop := ∀ (ca : Str → Addr) (F H : Hp) (x y : V) (a b d : D) (f1 f2 : Ct) (Q : VK), Same F H → RepO K ca F H a x f1 → RepO K ca F H b y f2 → g a b = some d → (∀ v f, RepO K ca F H d v f → Q v H) → r x y H Q
def UnS (K : PySem.W.Frag) (r : V → Hp → VK → Prop) (g : D → Option D) : Prop := ∀ (ca : Str → Addr) (F H : Hp) (x : V) (a d : D) (f1 : Ct) (Q : VK), Same F H → RepO K ca F H a x f1 → g a = some d → (∀ v f, RepO K ca F H d v f → Q v H) → r x H Q
def CallS (K : PySem.W.Frag) (r : List V → Hp → VK → Prop) (g : List D → Option D) : Prop := ∀ (ca : Str → Addr) (F H : Hp) (xs : List V) (as : List D) (d : D) (f1 : Ct) (Q : VK), Same F H → RepOs K ca F H as xs f1 → g as = some d → (∀ v f, RepO K ca F H d v f → Q v H) → r xs H Q
def z2 (g : D → D → Option D) (m n : MZ) : MZ := fun τ => (m τ).bind fun a => (n τ).bind fun b => g a b
def z1 (g : D → Option D) (m : MZ) : MZ := fun τ => (m τ).bind g
def ofO (o : Option D) (τ : Env) : R D := match o with
  | some d => if isFz d = true then .ok d τ else .bad
  | none => .bad
def e2 (g : D → D → Option D) (m n : ME) : ME := fun τ => (m τ).bind fun a τ1 => (n τ1).bind fun b τ2 => ofO (g a b) τ2
def e1 (g : D → Option D) (m : ME) : ME := fun τ => (m τ).bind fun a τ1 => ofO (g a) τ1
def eC (g : List D → Option D) (m : MA) : ME := fun τ => (m τ).bind fun a τ1 => ofO (g a) τ1
theorem post_ofO {y : D → Env → Prop} {x : Str → Env → Prop} {o : Option D} {τ : Env} (h : post y x (ofO o τ)) : ∃ d, o = some d ∧ isFz d = true ∧ y d τ := by
  unfold ofO at h
  cases o with
  | none => exact h.elim
  | some d =>
    by_cases z : isFz d = true
    · simp only [z, if_true] at h; exact ⟨d, rfl, z, h⟩
    · simp only [z] at h; exact h.elim
theorem bind_some {α β : Type} {o : Option α} {k : α → Option β} {d : β} (h : o.bind k = some d) : ∃ a, o = some a ∧ k a = some d := by
  cases o with
  | none => cases h
  | some a => exact ⟨a, rfl, h⟩
theorem imp2Z {r : R2} {g : D → D → Option D} {m n : MZ} (hs : OpS X.K r g) (σ : L2.St) (H : Hp) (Q : VK) (h : rdZ X.K B (z2 g m n) σ H Q) : tOp r (rdZ X.K B m) (rdZ X.K B n) σ H Q := by
  obtain ⟨F, τ, vs, ds, s, d, e, k⟩ := h
  obtain ⟨a, ea, e⟩ := bind_some e
  obtain ⟨b, eb, e⟩ := bind_some e
  exact ⟨F, τ, vs, ds, s, a, ea, fun x f1 hx => ⟨F, τ, vs, ds, s, b, eb, fun y f2 hy => hs _ _ _ _ _ _ _ _ _ _ _ s.same hx hy e k⟩⟩
theorem imp2E {r : R2} {g : D → D → Option D} {m n : ME} (hs : OpS X.K r g) (σ : L2.St) (H : Hp) (Q : VK) (h : rdE X.K B W (e2 g m n) σ H Q) : tOp r (rdE X.K B W m) (rdE X.K B W n) σ H Q := by
  obtain ⟨F, τ, vs, ds, s, p⟩ := h
  refine ⟨F, τ, vs, ds, s, post_imp (post_bind p) (fun a τ1 q x F1 H1 s1 => ⟨F1, τ1, _, _, s1, post_imp (post_bind q) (fun b τ2 q y F2 H2 s2 => ?_) fun c τ2 q F2 H2 s2 => q F2 H2 s2.pop⟩) fun _ _ q => q⟩
  obtain ⟨d, e, z, q⟩ := post_ofO q
  obtain ⟨f2, hy⟩ := s2.top
  obtain ⟨f1, hx⟩ := s2.pop.top
  exact hs _ _ _ _ _ _ _ _ _ _ _ s2.same hx hy e fun v f hv => q v F2 H2 (s2.pop.pop.push ((repO_fz z).mp hv).1)
theorem imp1Z {r : V → Hp → VK → Prop} {g : D → Option D} {m : MZ} (hs : UnS X.K r g) (σ : L2.St) (H : Hp) (Q : VK) (h : rdZ X.K B (z1 g m) σ H Q) : tUn r (rdZ X.K B m) σ H Q := by
  obtain ⟨F, τ, vs, ds, s, d, e, k⟩ := h
  obtain ⟨a, ea, e⟩ := bind_some e
  exact ⟨F, τ, vs, ds, s, a, ea, fun x f1 hx => hs _ _ _ _ _ _ _ _ s.same hx e k⟩
theorem imp1E {r : V → Hp → VK → Prop} {g : D → Option D} {m : ME} (hs : UnS X.K r g) (σ : L2.St) (H : Hp) (Q : VK) (h : rdE X.K B W (e1 g m) σ H Q) : tUn r (rdE X.K B W m) σ H Q := by
  obtain ⟨F, τ, vs, ds, s, p⟩ := h
  refine ⟨F, τ, vs, ds, s, post_imp (post_bind p) (fun a τ1 q x F1 H1 s1 => ?_) fun _ _ q => q⟩
  obtain ⟨d, e, z, q⟩ := post_ofO q
  obtain ⟨f1, hx⟩ := s1.top
  exact hs _ _ _ _ _ _ _ _ s1.same hx e fun v f hv => q v F1 H1 (s1.pop.push ((repO_fz z).mp hv).1)
theorem z_op {op : Operator} {a b : Expr} {pos : Pos} {r : R2} {g : D → D → Option D} {m n : MZ} (ho : OpR X (binaryOp op) r) (hs : OpS X.K r g) (ha : PE X a (rdZ X.K B m)) (hb : PE X b (rdZ X.K B n)) : PE X (.BinOp a op b pos) (rdZ X.K B (z2 g m n)) := PE.imp (pe_op ho ha hb) (imp2Z hs)
theorem e_op {op : Operator} {a b : Expr} {pos : Pos} {r : R2} {g : D → D → Option D} {m n : ME} (ho : OpR X (binaryOp op) r) (hs : OpS X.K r g) (ha : PE X a (rdE X.K B W m)) (hb : PE X b (rdE X.K B W n)) : PE X (.BinOp a op b pos) (rdE X.K B W (e2 g m n)) := PE.imp (pe_op ho ha hb) (imp2E hs)
theorem z_un {op : UnaryOp} {a : Expr} {pos : Pos} {r : V → Hp → VK → Prop} {g : D → Option D} {m : MZ} (ho : UnR X (unaryOp op) r) (hs : UnS X.K r g) (ha : PE X a (rdZ X.K B m)) : PE X (.UnaryOp op a pos) (rdZ X.K B (z1 g m)) := PE.imp (pe_un ho ha) (imp1Z hs)
theorem e_un {op : UnaryOp} {a : Expr} {pos : Pos} {r : V → Hp → VK → Prop} {g : D → Option D} {m : ME} (ho : UnR X (unaryOp op) r) (hs : UnS X.K r g) (ha : PE X a (rdE X.K B W m)) : PE X (.UnaryOp op a pos) (rdE X.K B W (e1 g m)) := PE.imp (pe_un ho ha) (imp1E hs)
theorem z_ix {a b : Expr} {pos : Pos} {r : R2} {g : D → D → Option D} {m n : MZ} (ho : IxR X r) (hs : OpS X.K r g) (ha : PE X a (rdZ X.K B m)) (hb : PE X b (rdZ X.K B n)) (hp : PlainIx b := by exact fun _ _ => rfl) : PE X (.Subscript a b pos) (rdZ X.K B (z2 g m n)) := PE.imp (pe_ix ho ha hb hp) (imp2Z hs)
theorem e_ix {a b : Expr} {pos : Pos} {r : R2} {g : D → D → Option D} {m n : ME} (ho : IxR X r) (hs : OpS X.K r g) (ha : PE X a (rdE X.K B W m)) (hb : PE X b (rdE X.K B W n)) (hp : PlainIx b := by exact fun _ _ => rfl) : PE X (.Subscript a b pos) (rdE X.K B W (e2 g m n)) := PE.imp (pe_ix ho ha hb hp) (imp2E hs)
theorem z_cmp {op : CmpOp} {a b : Expr} {pos : Pos} {r : R2} {g : D → D → Option D} {m n : MZ} (ho : OpR X (compareOp op) r) (hs : OpS X.K r g) (ha : PE X a (rdZ X.K B m)) (hb : PE X b (rdZ X.K B n)) (hm : behindInMarks op b = false := by first | exact nomark _ | rfl) : PE X (.Compare a [op] [b] pos) (rdZ X.K B (z2 g m n)) := PE.imp (pe_cmpR ho ha hb hm) (imp2Z hs)
theorem e_cmp {op : CmpOp} {a b : Expr} {pos : Pos} {r : R2} {g : D → D → Option D} {m n : ME} (ho : OpR X (compareOp op) r) (hs : OpS X.K r g) (ha : PE X a (rdE X.K B W m)) (hb : PE X b (rdE X.K B W n)) (hm : behindInMarks op b = false := by first | exact nomark _ | rfl) : PE X (.Compare a [op] [b] pos) (rdE X.K B W (e2 g m n)) := PE.imp (pe_cmpR ho ha hb hm) (imp2E hs)

/-! ### tests -/
def tE (m : ME) : MT := fun τ => (m τ).bind fun d τ1 => match d with
  | .bl b => .ok b τ1
  | _ => .bad
def tZ (m : MZ) : MT := fun τ => match m τ with
  | some (.bl b) => .ok b τ
  | _ => .bad
theorem impTE {m : ME} (σ : L2.St) (H : Hp) (Q : Bool → Hp → Prop) (h : rdT X.K B W (tE m) σ H Q) : rdE X.K B W m σ H fun x H' => ∃ k, x = .bl k ∧ Q k H' := by
  obtain ⟨F, τ, vs, ds, s, p⟩ := h
  refine ⟨F, τ, vs, ds, s, post_imp (post_bind p) (fun d τ1 q x F1 H1 s1 => ?_) fun _ _ q => q⟩
  cases d with
  | bl b => exact ⟨b, s1.topF rfl, q F1 H1 s1.pop⟩
  | _ => exact False.elim q
theorem impTZ {m : MZ} (σ : L2.St) (H : Hp) (Q : Bool → Hp → Prop) (h : rdT X.K B W (tZ m) σ H Q) : rdZ X.K B m σ H fun x H' => ∃ k, x = .bl k ∧ Q k H' := by
  obtain ⟨F, τ, vs, ds, s, p⟩ := h
  unfold tZ at p
  cases e : m τ with
  | none => rw [e] at p; exact False.elim p
  | some d =>
    rw [e] at p
    cases d with
    | bl b => exact ⟨F, τ, vs, ds, s, _, e, fun v f r => ⟨b, r.1, p F H s⟩⟩
    | _ => exact False.elim p
theorem t_valZ {e : Expr} {m : MZ} (h : PE X e (rdZ X.K B m)) (he : ∀ whole, isTrue e X.env whole = (do let v ← whole; standAt e.pos; holding [v] (truthy v)) := by intro _; rfl) : PT X e (rdT X.K B W (tZ m)) := PT.imp (pt_val h he) impTZ
theorem t_valE {e : Expr} {m : ME} (h : PE X e (rdE X.K B W m)) (he : ∀ whole, isTrue e X.env whole = (do let v ← whole; standAt e.pos; holding [v] (truthy v)) := by intro _; rfl) : PT X e (rdT X.K B W (tE m)) := PT.imp (pt_val h he) impTE
theorem t_cmpZ {op : CmpOp} {a b : Expr} {pos : Pos} {r : R2} {g : D → D → Option D} {m n : MZ} (ho : OpR X (compareOp op) r) (hs : OpS X.K r g) (ha : PE X a (rdZ X.K B m)) (hb : PE X b (rdZ X.K B n)) (hm : behindInMarks op b = false := by first | exact nomark _ | rfl) : PT X (.Compare a [op] [b] pos) (rdT X.K B W (tZ (z2 g m n))) :=
  PT.imp (pt_cmpR ho ha hb hm) fun σ H Q h => imp2Z hs σ H _ (impTZ σ H Q h)
theorem t_cmpE {op : CmpOp} {a b : Expr} {pos : Pos} {r : R2} {g : D → D → Option D} {m n : ME} (ho : OpR X (compareOp op) r) (hs : OpS X.K r g) (ha : PE X a (rdE X.K B W m)) (hb : PE X b (rdE X.K B W n)) (hm : behindInMarks op b = false := by first | exact nomark _ | rfl) : PT X (.Compare a [op] [b] pos) (rdT X.K B W (tE (e2 g m n))) :=
  PT.imp (pt_cmpR ho ha hb hm) fun σ H Q h => imp2E hs σ H _ (impTE σ H Q h)
def tAnd (a b : MT) : MT := fun τ => (a τ).bind fun x τ1 => if x = true then b τ1 else .ok false τ1
def tOr (a b : MT) : MT := fun τ => (a τ).bind fun x τ1 => if x = true then .ok true τ1 else b τ1
def tNot (a : MT) : MT := fun τ => (a τ).bind fun x τ1 => .ok (!x) τ1
theorem t_and1 {a : Expr} {pos : Pos} {m : MT} (ha : PT X a (rdT X.K B W m)) : PW X (.BoolOp .And [a] pos) (rdT X.K B W m) := pw_and1 ha
theorem t_or1 {a : Expr} {pos : Pos} {m : MT} (ha : PT X a (rdT X.K B W m)) : PW X (.BoolOp .Or [a] pos) (rdT X.K B W m) := pw_or1 ha
theorem t_and {a b : Expr} {r : List Expr} {pos : Pos} {m n : MT} (ha : PT X a (rdT X.K B W m)) (hb : PW X (.BoolOp .And (b :: r) pos) (rdT X.K B W n)) : PW X (.BoolOp .And (a :: b :: r) pos) (rdT X.K B W (tAnd m n)) := PW.imp (pw_and ha hb) fun σ H Q h => by
  obtain ⟨F, τ, vs, ds, s, p⟩ := h
  refine ⟨F, τ, vs, ds, s, post_imp (post_bind p) (fun b τ1 q F1 H1 s1 => ?_) fun _ _ q => q⟩
  cases b with
  | true => exact ⟨F1, τ1, vs, ds, s1, q⟩
  | false => exact q F1 H1 s1
theorem t_or {a b : Expr} {r : List Expr} {pos : Pos} {m n : MT} (ha : PT X a (rdT X.K B W m)) (hb : PW X (.BoolOp .Or (b :: r) pos) (rdT X.K B W n)) : PW X (.BoolOp .Or (a :: b :: r) pos) (rdT X.K B W (tOr m n)) := PW.imp (pw_or ha hb) fun σ H Q h => by
  obtain ⟨F, τ, vs, ds, s, p⟩ := h
  refine ⟨F, τ, vs, ds, s, post_imp (post_bind p) (fun b τ1 q F1 H1 s1 => ?_) fun _ _ q => q⟩
  cases b with
  | false => exact ⟨F1, τ1, vs, ds, s1, q⟩
  | true => exact q F1 H1 s1
theorem t_not {a : Expr} {pos : Pos} {m : MT} (ha : PT X a (rdT X.K B W m)) : PT X (.UnaryOp .Not a pos) (rdT X.K B W (tNot m)) := PT.imp (pt_not ha) fun σ H Q h => by
  obtain ⟨F, τ, vs, ds, s, p⟩ := h
  exact ⟨F, τ, vs, ds, s, post_imp (post_bind p) (fun b τ1 q F1 H1 s1 => q F1 H1 s1) fun _ _ q => q⟩
/-- chains a < b < c -/
def zChain (g g' : D → D → Option D) (a b c : MZ) : MZ := fun τ => (a τ).bind fun x => (b τ).bind fun y => (g x y).bind fun z => match z with
  | .bl true => (c τ).bind fun w => g' y w
  | .bl false => some (.bl false)
  | _ => none
theorem impChZ {r r' : R2} {g g' : D → D → Option D} {l m n : MZ} (hs : OpS X.K r g) (hs' : OpS X.K r' g') (σ : L2.St) (H : Hp) (Q : VK) (h : rdZ X.K B (zChain g g' l m n) σ H Q) : tChain r r' (rdZ X.K B l) (rdZ X.K B m) (rdZ X.K B n) σ H Q := by
  obtain ⟨F, τ, vs, ds, s, d, e, k⟩ := h
  obtain ⟨a, ea, e⟩ := bind_some e
  obtain ⟨b, eb, e⟩ := bind_some e
  obtain ⟨z, ez, e⟩ := bind_some e
  refine ⟨F, τ, vs, ds, s, a, ea, fun x f1 hx => ⟨F, τ, vs, ds, s, b, eb, fun y f2 hy => hs _ _ _ _ _ _ _ _ _ _ _ s.same hx hy ez fun v f hv => ?_⟩⟩
  cases z with
  | bl t =>
    refine ⟨t, hv.1, ?_⟩
    cases t with
    | true =>
      obtain ⟨c, ec, e⟩ := bind_some e
      exact ⟨F, τ, vs, ds, s, c, ec, fun w f3 hw => hs' _ _ _ _ _ _ _ _ _ _ _ s.same hy hw e k⟩
    | false =>
      cases (show some (D.bl false) = some d from e)
      exact k (.bl false) _ (Rep.o (d := .bl false) rfl)
  | _ => cases e
theorem z_chain {op op' : CmpOp} {a b c : Expr} {pos : Pos} {r r' : R2} {g g' : D → D → Option D} {l m n : MZ} (ho : OpR X (compareOp op) r) (hs : OpS X.K r g) (ho' : OpR X (compareOp op') r') (hs' : OpS X.K r' g') (ha : PE X a (rdZ X.K B l)) (hb : PE X b (rdZ X.K B m)) (hc : PE X c (rdZ X.K B n))
    (hm : lastMarks [op, op'] [b, c] = false := by with_unfolding_all rfl) : PE X (.Compare a [op, op'] [b, c] pos) (rdZ X.K B (zChain g g' l m n)) := PE.imp (pe_chain ho ho' ha hb hc hm) (impChZ hs hs')
theorem t_chain {op op' : CmpOp} {a b c : Expr} {pos : Pos} {r r' : R2} {g g' : D → D → Option D} {l m n : MZ} (ho : OpR X (compareOp op) r) (hs : OpS X.K r g) (ho' : OpR X (compareOp op') r') (hs' : OpS X.K r' g') (ha : PE X a (rdZ X.K B l)) (hb : PE X b (rdZ X.K B m)) (hc : PE X c (rdZ X.K B n))
    (hm : lastMarks [op, op'] [b, c] = false := by with_unfolding_all rfl) : PT X (.Compare a [op, op'] [b, c] pos) (rdT X.K B W (tZ (zChain g g' l m n))) := PT.imp (pt_chain ho ho' ha hb hc hm) fun σ H Q h => impChZ hs hs' σ H _ (impTZ σ H Q h)

/-! ### and, or, not, if as values -/
def eAnd (a b : ME) : ME := fun τ => (a τ).bind fun x τ1 => match x with
  | .bl true => b τ1
  | .bl false => .ok (.bl false) τ1
  | _ => .bad
def eOr (a b : ME) : ME := fun τ => (a τ).bind fun x τ1 => match x with
  | .bl false => b τ1
  | .bl true => .ok (.bl true) τ1
  | _ => .bad
def eNot (a : ME) : ME := fun τ => (a τ).bind fun x τ1 => match x with
  | .bl b => .ok (.bl (!b)) τ1
  | _ => .bad
def eIf (c : MT) (a b : ME) : ME := fun τ => (c τ).bind fun x τ1 => if x = true then a τ1 else b τ1
theorem e_one {op : BoolOp} {a : Expr} {pos : Pos} {m : ME} (h : PE X a (rdE X.K B W m)) : PE X (.BoolOp op [a] pos) (rdE X.K B W m) := pe_one h
theorem e_and {a b : Expr} {r : List Expr} {pos : Pos} {m n : ME} (ha : PE X a (rdE X.K B W m)) (hb : PE X (.BoolOp .And (b :: r) pos) (rdE X.K B W n)) : PE X (.BoolOp .And (a :: b :: r) pos) (rdE X.K B W (eAnd m n)) := PE.imp (pe_and ha hb) fun σ H Q h => by
  obtain ⟨F, τ, vs, ds, s, p⟩ := h
  refine ⟨F, τ, vs, ds, s, post_imp (post_bind p) (fun d τ1 q x F1 H1 s1 => ?_) fun _ _ q => q⟩
  cases d with
  | bl b =>
    refine ⟨b, s1.topF rfl, ?_⟩
    cases b with
    | true => exact ⟨F1, τ1, vs, ds, s1.pop, q⟩
    | false => exact q _ F1 H1 (s1.pop.push (d := .bl false) rfl)
  | _ => exact False.elim q
theorem e_or {a b : Expr} {r : List Expr} {pos : Pos} {m n : ME} (ha : PE X a (rdE X.K B W m)) (hb : PE X (.BoolOp .Or (b :: r) pos) (rdE X.K B W n)) : PE X (.BoolOp .Or (a :: b :: r) pos) (rdE X.K B W (eOr m n)) := PE.imp (pe_or ha hb) fun σ H Q h => by
  obtain ⟨F, τ, vs, ds, s, p⟩ := h
  refine ⟨F, τ, vs, ds, s, post_imp (post_bind p) (fun d τ1 q x F1 H1 s1 => ?_) fun _ _ q => q⟩
  cases d with
  | bl b =>
    refine ⟨b, s1.topF rfl, ?_⟩
    cases b with
    | false => exact ⟨F1, τ1, vs, ds, s1.pop, q⟩
    | true => exact q _ F1 H1 (s1.pop.push (d := .bl true) rfl)
  | _ => exact False.elim q
theorem e_not {a : Expr} {pos : Pos} {m : ME} (ha : PE X a (rdE X.K B W m)) : PE X (.UnaryOp .Not a pos) (rdE X.K B W (eNot m)) := PE.imp (pe_not ha) fun σ H Q h => by
  obtain ⟨F, τ, vs, ds, s, p⟩ := h
  refine ⟨F, τ, vs, ds, s, post_imp (post_bind p) (fun d τ1 q x F1 H1 s1 => ?_) fun _ _ q => q⟩
  cases d with
  | bl b => exact ⟨b, s1.topF rfl, q _ F1 H1 (s1.pop.push (d := .bl (!b)) rfl)⟩
  | _ => exact False.elim q
theorem e_if {c a b : Expr} {pos : Pos} {t : MT} {m n : ME} (hc : PT X c (rdT X.K B W t)) (ha : PE X a (rdE X.K B W m)) (hb : PE X b (rdE X.K B W n)) : PE X (.IfExp c a b pos) (rdE X.K B W (eIf t m n)) := PE.imp (pe_ifExp hc ha hb) fun σ H Q h => by
  obtain ⟨F, τ, vs, ds, s, p⟩ := h
  refine ⟨F, τ, vs, ds, s, post_imp (post_bind p) (fun b τ1 q F1 H1 s1 => ?_) fun _ _ q => q⟩
  cases b with
  | true => exact ⟨F1, τ1, vs, ds, s1, q⟩
  | false => exact ⟨F1, τ1, vs, ds, s1, q⟩

/-! ### argument lists -/
def aNil : MA := fun τ => .ok [] τ
def aCons (m : ME) (n : MA) : MA := fun τ => (m τ).bind fun d τ1 => (n τ1).bind fun ds τ2 => .ok (d :: ds) τ2
theorem a_nil : PA X [] (rdA X.K B W aNil) := PA.imp pa_nil fun σ H Q ⟨F, τ, vs, ds, s, p⟩ => p [] F H rfl s
theorem a_cons {e : Expr} {es : List Expr} {m : ME} {n : MA} (ha : PE X e (rdE X.K B W m)) (hr : PA X es (rdA X.K B W n)) (hs : starEach (e :: es) X.env = (false, eval e X.env) :: starEach es X.env := by rfl) : PA X (e :: es) (rdA X.K B W (aCons m n)) := PA.imp (pa_cons ha hr hs) fun σ H Q h => by
  obtain ⟨F, τ, vs, ds, s, p⟩ := h
  refine ⟨F, τ, vs, ds, s, post_imp (post_bind p) (fun a τ1 q x F1 H1 s1 => ⟨F1, τ1, _, _, s1, post_imp (post_bind q) (fun es τ2 q us F2 H2 hl s2 => ?_) fun c τ2 q F2 H2 s2 => q F2 H2 s2.pop⟩) fun _ _ q => q⟩
  exact q (x :: us) F2 H2 (by rw [List.length_cons, List.length_cons, hl]) (s2.swap hl)
/-- with values that are only looked at -/
def rdZA (K : PySem.W.Frag) (B : Bx) (m : Env → Option (List D)) : TA := fun σ H Q => ∃ F τ vs ds, StT K B F H σ τ vs ds ∧ ∃ es, m τ = some es ∧ ∀ us f, RepOs K B.ca F H es us f → Q us H
def zaNil : Env → Option (List D) := fun _ => some []
def zaCons (m : MZ) (n : Env → Option (List D)) : Env → Option (List D) := fun τ => (m τ).bind fun d => (n τ).bind fun ds => some (d :: ds)
theorem za_nil : PA X [] (rdZA X.K B zaNil) := PA.imp pa_nil fun σ H Q ⟨F, τ, vs, ds, s, es, e, k⟩ => by
  cases (show some [] = some es from e)
  exact k [] (fun _ => 0) ⟨rfl, fun _ => rfl⟩
theorem za_cons {e : Expr} {es : List Expr} {m : MZ} {n : Env → Option (List D)} (ha : PE X e (rdZ X.K B m)) (hr : PA X es (rdZA X.K B n)) (hs : starEach (e :: es) X.env = (false, eval e X.env) :: starEach es X.env := by rfl) : PA X (e :: es) (rdZA X.K B (zaCons m n)) := PA.imp (pa_cons ha hr hs) fun σ H Q h => by
  obtain ⟨F, τ, vs, ds, s, es, e, k⟩ := h
  obtain ⟨a, ea, e⟩ := bind_some e
  obtain ⟨bs, eb, e⟩ := bind_some e
  cases (show some (a :: bs) = some es from e)
  exact ⟨F, τ, vs, ds, s, a, ea, fun x f1 hx => ⟨F, τ, vs, ds, s, bs, eb, fun us f2 hu => k (x :: us) (fun b => f1 b + f2 b) ⟨x, us, f1, f2, rfl, hx, hu, fun _ => rfl⟩⟩⟩
def zC' (g : List D → Option D) (m : Env → Option (List D)) : MZ := fun τ => (m τ).bind g
theorem impCZ {r : List V → Hp → VK → Prop} {g : List D → Option D} {m : Env → Option (List D)} (hs : CallS X.K r g) (σ : L2.St) (H : Hp) (Q : VK) (h : rdZ X.K B (zC' g m) σ H Q) : tCB r (rdZA X.K B m) σ H Q := by
  obtain ⟨F, τ, vs, ds, s, d, e, k⟩ := h
  obtain ⟨a, ea, e⟩ := bind_some e
  exact ⟨F, τ, vs, ds, s, a, ea, fun us f hu => hs _ _ _ _ _ _ _ _ s.same hu e k⟩
theorem impCE {r : List V → Hp → VK → Prop} {g : List D → Option D} {m : MA} (hs : CallS X.K r g) (σ : L2.St) (H : Hp) (Q : VK) (h : rdE X.K B W (eC g m) σ H Q) : tCB r (rdA X.K B W m) σ H Q := by
  obtain ⟨F, τ, vs, ds, s, p⟩ := h
  refine ⟨F, τ, vs, ds, s, post_imp (post_bind p) (fun es τ1 q us F1 H1 hl s1 => ?_) fun _ _ q => q⟩
  obtain ⟨d, e, z, q⟩ := post_ofO q
  obtain ⟨f1, hu⟩ := s1.tops hl
  exact hs _ _ _ _ _ _ _ _ s1.same hu e fun v f hv => q v F1 H1 ((s1.pops hl).push ((repO_fz z).mp hv).1)
section
variable {x : Str} {p pos : Pos} {e : Expr} {es : List Expr} {id T : String} {r : List V → Hp → VK → Prop} {g : List D → Option D}
theorem z_callB {m : Env → Option (List D)} (hc : CallR X (.builtin id) r) (hs : CallS X.K r g) (hg : Gl X x) (hm : X.mg x = none) (hv : bootBuiltins x = some (.builtin id)) (ha : PA X (e :: es) (rdZA X.K B m)) (hn : x ≠ "__name__" := by decide) (hdb : (x == ("__debug__" : Str)) = false := by decide)
    (he : starEach (e :: es) X.env = (false, eval e X.env) :: starEach es X.env := by rfl) (hpl : (backTo pos (starEach es X.env)).any (·.1) = false := by rfl) : PE X (.Call (.Name x p) (e :: es) [] pos) (rdZ X.K B (zC' g m)) := PE.imp (pe_callB hc hg hm hv ha hn hdb he hpl) (impCZ hs)
theorem e_callB {m : MA} (hc : CallR X (.builtin id) r) (hs : CallS X.K r g) (hg : Gl X x) (hm : X.mg x = none) (hv : bootBuiltins x = some (.builtin id)) (ha : PA X (e :: es) (rdA X.K B W m)) (hn : x ≠ "__name__" := by decide) (hdb : (x == ("__debug__" : Str)) = false := by decide)
    (he : starEach (e :: es) X.env = (false, eval e X.env) :: starEach es X.env := by rfl) (hpl : (backTo pos (starEach es X.env)).any (·.1) = false := by rfl) : PE X (.Call (.Name x p) (e :: es) [] pos) (rdE X.K B W (eC g m)) := PE.imp (pe_callB hc hg hm hv ha hn hdb he hpl) (impCE hs)
theorem e_callTy {m : MA} (hc : CallR X (.type T) r) (hs : CallS X.K r g) (hg : Gl X x) (hm : X.mg x = none) (hv : bootBuiltins x = some (.type T)) (ha : PA X (e :: es) (rdA X.K B W m)) (hn : x ≠ "__name__" := by decide) (hdb : (x == ("__debug__" : Str)) = false := by decide)
    (he : starEach (e :: es) X.env = (false, eval e X.env) :: starEach es X.env := by rfl) (hpl : (backTo pos (starEach es X.env)).any (·.1) = false := by rfl) : PE X (.Call (.Name x p) (e :: es) [] pos) (rdE X.K B W (eC g m)) := PE.imp (pe_callTy hc hg hm hv ha hn hdb he hpl) (impCE hs)
end

/-! ### displays -/
def eTup (m : MA) : ME := fun τ => (m τ).bind fun ds τ1 => if ds.length ≤ 1000000 then .ok (.tup (freezeL ds)) τ1 else .bad
def eLst (m : MA) : ME := fun τ => (m τ).bind fun ds τ1 => if ds.length ≤ 1000000 then .ok (.lst true ds) τ1 else .bad
theorem le_sizeLine {n : Nat} (h : n ≤ 1000000) : n ≤ sizeLine := by rw [sizeLine_eq]; omega
theorem e_tup {es : List Expr} {k : Nat} {pos : Pos} {m : MA} (h : PA X es (rdA X.K B W m)) : PE X (.Tuple es k pos) (rdE X.K B W (eTup m)) := PE.imp (pe_tup h) fun σ H Q h => by
  obtain ⟨F, τ, vs, ds, s, p⟩ := h
  refine ⟨F, τ, vs, ds, s, post_imp (post_bind p) (fun es τ1 q us F1 H1 hl s1 => ?_) fun _ _ q => q⟩
  by_cases z : es.length ≤ 1000000
  · simp only [z, if_true] at q
    refine ⟨le_sizeLine (hl ▸ z), fun p hp => ?_⟩
    obtain ⟨F2, sm, rl, s2⟩ := s1.freeze hl
    exact q _ _ _ (s2.newTup hp rl)
  · simp only [z] at q; exact False.elim q
theorem e_lst {es : List Expr} {pos : Pos} {m : MA} (h : PA X es (rdA X.K B W m)) : PE X (.List es pos) (rdE X.K B W (eLst m)) := PE.imp (pe_lst h) fun σ H Q h => by
  obtain ⟨F, τ, vs, ds, s, p⟩ := h
  refine ⟨F, τ, vs, ds, s, post_imp (post_bind p) (fun es τ1 q us F1 H1 hl s1 => ?_) fun _ _ q => q⟩
  by_cases z : es.length ≤ 1000000
  · simp only [z, if_true] at q
    exact ⟨le_sizeLine (hl ▸ z), fun p hp => q _ _ _ (s1.newLst hl hp)⟩
  · simp only [z] at q; exact False.elim q
end
end Bn

/-! Calls, statements, loops, try, comprehensions; a def by its function. -/
namespace Bn
open PySem PySem.Spec PyProof.Rows L2

structure XOk (X : Cx) (W : WX) : Prop where
  tk : Takes X W
  hp : PassesOwn (model X.prog X.w) X.A X.env X.xe
  calm : X.calm = true
abbrev W0 : WX := fun _ _ _ _ => False

/-! ### calls -/
def spP (K : PySem.W.Frag) (ca : Str → Addr) (g : List D → CR) : Sp := fun vs H Q E => ∃ F ds, Same F H ∧ RepL K ca F ds vs ∧
  match g ds with
  | .ok d => ∀ v F' H' f, Same F F' → Same F' H' → Same H H' → RepO K ca F' H' d v f → (∀ a, f a ≤ 1) → (∀ a, 0 < f a → F' a = none ∧ H a = none) → (∀ a, F' a ≠ none → F a ≠ none ∨ H a = none) → Q v H'
  | .ex c => ∀ H', Same H H' → E (.ref (ca c)) none H'
  | .bad => False
structure Fo (P : Program) (w : World) (K : PySem.W.Frag) (mg : Str → Option Value) (base : Heap) (ca : Str → Addr) (k : Nat) (x : Str) (g : List D → CR) : Prop where
  ex : ∃ f fd ps, mg x = some (.ref f) ∧ PySem.W.keepIn K (.ref f) = true ∧ Binds K fd ps [] ∧ FnOk P w K mg base (L2.CX P w) k f fd ps (spP K ca g)
def ofC (r : CR) (τ : Env) : R D := match r with
  | .ok d => .ok d τ
  | .ex c => .ex c τ
  | .bad => .bad
def eCall (g : List D → CR) (m : MA) : ME := fun τ => (m τ).bind fun ds τ1 => ofC (g (freezeL ds)) τ1
def eCall0 (g : List D → CR) : ME := fun τ => match g [] with
  | .ok d => .ok d τ
  | _ => .bad
section
variable {X : Cx} {B : Bx} {W : WX}
theorem e_call {x : Str} {p pos : Pos} {e : Expr} {es : List Expr} {m : MA} {g : List D → CR} {k j : Nat} (c : XOk X W) (G : Fo X.prog X.w X.K X.mg X.base B.ca k x g) (hr : Room j X.A) (hg : Gl X x) (ha : PA X (e :: es) (rdA X.K B W m)) (hk : k ≤ j := by decide) (hdb : (x == ("__debug__" : Str)) = false := by decide)
    (he : starEach (e :: es) X.env = (false, eval e X.env) :: starEach es X.env := by rfl) (hpl : (backTo pos (starEach es X.env)).any (·.1) = false := by rfl) : PE X (.Call (.Name x p) (e :: es) [] pos) (rdE X.K B W (eCall g m)) := by
  obtain ⟨f, fd, ps, h1, h2, h3, h4⟩ := G.ex
  refine PE.imp (pe_callS h4 (hr.mono hk) hg h1 h2 h3 (fun σ => passAt c.tk σ) ha hdb he hpl) fun σ H Q h => ?_
  obtain ⟨F, τ, vs, ds, s, p⟩ := h
  refine ⟨F, τ, vs, ds, s, post_imp (post_bind p) (fun as τ1 q us F1 H1 hl s1 => ?_) fun _ _ q => q⟩
  obtain ⟨F2, sm, rl, s2⟩ := s1.freeze hl
  refine ⟨F2, freezeL as, s2.same, rl, ?_⟩
  cases eg : g (freezeL as) with
  | ok d => rw [eg] at q; exact fun v F' H' f k1 k2 k3 k4 k5 k6 k7 => q v F' H' (s2.called k1 k2 k3 k4 k5 k6 k7)
  | ex c => rw [eg] at q; exact fun H' k1 => q F2 H' (s2.grown k1)
  | bad => rw [eg] at q; exact q
theorem e_call0 {x : Str} {p pos : Pos} {g : List D → CR} {k j : Nat} (G : Fo X.prog X.w X.K X.mg X.base B.ca k x g) (hr : Room j X.A) (hg : Gl X x) (hk : k ≤ j := by decide) (hdb : (x == ("__debug__" : Str)) = false := by decide) :
    PE X (.Call (.Name x p) [] [] pos) (rdE X.K B W (eCall0 g)) := by
  obtain ⟨f, fd, ps, h1, h2, h3, h4⟩ := G.ex
  refine PE.imp (pe_call0 h4 (hr.mono hk) hg h1 h2 h3 .nil passL hdb) fun σ H Q h => ?_
  obtain ⟨F, τ, vs, ds, s, p⟩ := h
  refine ⟨F, [], s.same, rfl, ?_⟩
  unfold eCall0 at p
  cases eg : g [] with
  | ok d => rw [eg] at p; exact fun v F' H' f k1 k2 k3 k4 k5 k6 k7 => p v F' H' (s.called k1 k2 k3 k4 k5 k6 k7)
  | ex c => rw [eg] at p; exact p.elim
  | bad => rw [eg] at p; exact p

/-! ### statements -/
def R.s {α : Type} : R α → (α → Env → SR) → SR
  | .ok a τ, k => k a τ
  | .ex c τ, _ => .ex c τ
  | .bad, _ => .bad
theorem post_s {α : Type} {K : PySem.W.Frag} {vs : List V} {ds : List D} {D' : Ends} {r : R α} {k : α → Env → SR} {σ : L2.St} (h : postS K B W vs ds D' (r.s k)) : post (fun a τ => postS K B W vs ds D' (k a τ)) (exW K B W σ vs ds) r := by
  cases r with
  | ok a τ => exact h
  | ex c τ => exact fun F H s => h σ F H s
  | bad => exact h
def sSeq (s r : MS) : MS := fun τ => match s τ with
  | .nx τ' => r τ'
  | .rt d τ' => .rt d τ'
  | .bk τ' => .bk τ'
  | .ct τ' => .ct τ'
  | .ex c τ' => .ex c τ'
  | .bad => .bad
def sNil : MS := fun τ => .nx τ
theorem s_nil : PSs X [] (rdS X.K B W sNil) := PSs.imp pss_nil fun D σ H ⟨F, τ, vs, ds, s, p⟩ => p σ F H s
theorem s_one {st : Stmt} {m : MS} (h : PS X st (rdS X.K B W m)) : PSs X [st] (rdS X.K B W m) := pss_one h
theorem s_cons {st : Stmt} {r : List Stmt} {m n : MS} (h : PS X st (rdS X.K B W m)) (hr : PSs X r (rdS X.K B W n)) : PSs X (st :: r) (rdS X.K B W (sSeq m n)) := PSs.imp (pss_cons h hr) fun D σ H ⟨F, τ, vs, ds, s, p⟩ => by
  refine ⟨F, τ, vs, ds, s, ?_⟩
  unfold sSeq at p
  cases e : m τ with
  | nx τ' => rw [e] at p; exact fun σ' F' H' s' => ⟨F', τ', vs, ds, s', p⟩
  | _ => rw [e] at p; exact p
def sRet (m : ME) : MS := fun τ => (m τ).s fun d τ1 => .rt d τ1
theorem s_ret {e : Expr} {pos : Pos} {m : ME} (h : PE X e (rdE X.K B W m)) : PS X (.Return (some e) pos) (rdS X.K B W (sRet m)) := PS.imp (ps_ret h) fun D σ H ⟨F, τ, vs, ds, s, p⟩ =>
  ⟨F, τ, vs, ds, s, post_imp (post_s (σ := σ) p) (fun d τ1 q v F1 H1 s1 => q v σ F1 H1 s1) fun _ _ q => q⟩
def sRetN : MS := fun τ => .rt .non τ
theorem s_retN {pos : Pos} : PS X (.Return none pos) (rdS X.K B W sRetN) := PS.imp ps_retN fun D σ H ⟨F, τ, vs, ds, s, p⟩ => p .non σ F H (s.push (d := .non) rfl)
def sDrop (m : ME) : MS := fun τ => (m τ).s fun _ τ1 => .nx τ1
theorem s_expr {e : Expr} {pos : Pos} {m : ME} (h : PE X e (rdE X.K B W m)) (hs : swapsWith e none pos.line X.env = pure false := by rfl) : PS X (.Expr e pos) (rdS X.K B W (sDrop m)) := PS.imp (ps_expr h hs) fun D σ H ⟨F, τ, vs, ds, s, p⟩ =>
  ⟨F, τ, vs, ds, s, post_imp (post_s (σ := σ) p) (fun d τ1 q v F1 H1 s1 => q σ F1 H1 s1.pop) fun _ _ q => q⟩
theorem s_doc {x j pos pos'} : PS X (.Expr (.Constant (.str x) j pos) pos') (rdS X.K B W sNil) := PS.imp ps_doc fun D σ H ⟨F, τ, vs, ds, s, p⟩ => p σ F H s
theorem s_pass {pos : Pos} : PS X (.Pass pos) (rdS X.K B W sNil) := PS.imp ps_pass fun D σ H ⟨F, τ, vs, ds, s, p⟩ => p σ F H s
def sBk : MS := fun τ => .bk τ
def sCt : MS := fun τ => .ct τ
theorem s_break {pos : Pos} : PS X (.Break pos) (rdS X.K B W sBk) := PS.imp ps_break fun D σ H ⟨F, τ, vs, ds, s, p⟩ => p σ F H s
theorem s_continue {pos : Pos} : PS X (.Continue pos) (rdS X.K B W sCt) := PS.imp ps_continue fun D σ H ⟨F, τ, vs, ds, s, p⟩ => p σ F H s
def sIf (c : MT) (a b : MS) : MS := fun τ => (c τ).s fun x τ1 => if x = true then a τ1 else b τ1
theorem s_if {c : Expr} {a b : List Stmt} {pos : Pos} {t : MT} {m n : MS} (hc : PT X c (rdT X.K B W t)) (ha : PSs X a (rdS X.K B W m)) (hb : PSs X b (rdS X.K B W n)) : PS X (.If c a b pos) (rdS X.K B W (sIf t m n)) := PS.imp (ps_if hc ha hb) fun D σ H ⟨F, τ, vs, ds, s, p⟩ => by
  refine ⟨F, τ, vs, ds, s, post_imp (post_s (σ := σ) p) (fun x τ1 q F1 H1 s1 => ?_) fun _ _ q => q⟩
  cases x with
  | true => exact ⟨F1, τ1, vs, ds, s1, q⟩
  | false => exact ⟨F1, τ1, vs, ds, s1, q⟩

/-! ### targets -/
def gN (i : Nat) : D → Env → Option Env := fun d τ => some (τ.set i (some d))
theorem StT.put' {K : PySem.W.Frag} {F H : Hp} {σ : L2.St} {τ : Env} {vs : List V} {ds : List D} {v : V} {d : D} {i : Nat} (s : StT K B F H σ τ (v :: vs) (d :: ds)) (hf : ioFree B i) : StT K B F H (σ.set i (some v)) (τ.set i (some d)) vs ds := by
  by_cases h : i < τ.length
  · exact s.put h hf
  · have hl : σ.length = τ.length := by obtain ⟨f1, f2, a, _⟩ := s; exact a.length
    rw [List.set_eq_of_length_le (by omega), List.set_eq_of_length_le (by omega)]
    exact s.pop
theorem g_name {i : Nat} {x : Str} {pos : Pos} (hN : X.N.Nodup) (hi : X.N[i]? = some x) (hx : Loc X.env.scope x) (hio : ioFree B i := by first | (intro p hp; cases hp; done) | (intro p hp; simp only [List.mem_cons, List.not_mem_nil, or_false] at hp; rcases hp with rfl | rfl <;> simp) | (intro p hp; simp only [List.mem_cons, List.not_mem_nil, or_false] at hp; subst hp; simp)) (hf : X.fn x = true ∨ X.env.scope.names.lookup x = some .local := by first | exact .inl rfl | exact .inr rfl | assumption) : PG X (.Name x pos) (rdG X.K B [i] (gN i)) :=
  PG.imp (pg_name hN hi hx hf) fun v σ H Q ⟨F, τ, vs, ds, d, s, τ', e, k⟩ => by
    cases (show some (τ.set i (some d)) = some τ' from e)
    refine k _ F H (s.put' hio) (by rw [List.length_set]) fun j hj => ?_
    rw [List.getElem?_set_ne]
    exact fun e => hj (by simp [e])
def gNil' : List D → Env → Option Env := fun ds τ => match ds with
  | [] => some τ
  | _ => none
def gCons' (g : D → Env → Option Env) (h : List D → Env → Option Env) : List D → Env → Option Env := fun ds τ => match ds with
  | d :: r => (g d τ).bind (h r)
  | [] => none
def gT (n : Nat) (g : List D → Env → Option Env) : D → Env → Option Env := fun d τ => match d with
  | .tup es => if es.length = n then g es τ else none
  | _ => none
theorem gs_nil : PGs X [] (rdGs X.K B [] gNil') := PGs.imp pgs_nil fun ws σ H Q ⟨F, τ, vs, ds, es, hl, s, τ', e, k⟩ => by
  cases es with
  | nil =>
    cases (show some τ = some τ' from e)
    have : ws = [] := List.eq_nil_of_length_eq_zero hl
    subst this
    exact ⟨rfl, k σ F H s rfl fun _ _ => rfl⟩
  | cons a b => cases e
theorem gs_cons {e : Expr} {es : List Expr} {sl sl' : List Nat} {g : D → Env → Option Env} {h : List D → Env → Option Env} (h1 : PG X e (rdG X.K B sl g)) (h2 : PGs X es (rdGs X.K B sl' h))
    (hs : (assignEach (e :: es) X.env).map (·.2) = assign e X.env :: (assignEach es X.env).map (·.2) := by rfl) : PGs X (e :: es) (rdGs X.K B (sl ++ sl') (gCons' g h)) := PGs.imp (pgs_cons h1 h2 hs) fun ws σ H Q ⟨F, τ, vs, ds, es, hl, s, τ', e, k⟩ => by
  cases es with
  | nil => cases e
  | cons d r =>
    obtain ⟨τ1, e1, e⟩ := bind_some e
    cases ws with
    | nil => cases hl
    | cons v ws =>
      refine ⟨v, ws, rfl, F, τ, ws ++ vs, r ++ ds, d, s, τ1, e1, fun σ1 F1 H1 s1 l1 k1 => ⟨F1, τ1, vs, ds, r, by simpa using hl, s1, τ', e, fun σ2 F2 H2 s2 l2 k2 => k σ2 F2 H2 s2 (l2.trans l1) fun j hj => ?_⟩⟩
      rw [k2 j fun z => hj (List.mem_append_right _ z), k1 j fun z => hj (List.mem_append_left _ z)]
theorem g_tup {es : List Expr} {k : Nat} {pos : Pos} {sl : List Nat} {g : List D → Env → Option Env} {n : Nat} (hc : X.calm = true) (h : PGs X es (rdGs X.K B sl g)) (hn : (assignEach es X.env).length = n := by rfl) (hst : (assignEach es X.env).findIdx? (·.1) = none := by rfl) : PG X (.Tuple es k pos) (rdG X.K B sl (gT n g)) :=
  PG.imp (pg_tup hc h hn hst) fun v σ H Q ⟨F, τ, vs, ds, d, s, τ', e, k⟩ => by
    cases d with
    | tup xs =>
      obtain ⟨a, us, e1, h1, h2⟩ := s.topF rfl
      subst e1
      by_cases hl : xs.length = n
      · have e' : g xs τ = some τ' := by
          have e' : (if xs.length = n then g xs τ else none) = some τ' := e
          rw [if_pos hl] at e'; exact e'
        have hul := h2.length
        refine ⟨a, us, rfl, sqT_same s.same h1, hul.trans hl, F, τ, vs, ds, xs, hul, ?_, τ', e', k⟩
        obtain ⟨f1, f2, A, b, w, io⟩ := s.pop
        have b2 := (h2.os (H := H)).append b
        have e3 : (fun b => 0 + f2 b) = f2 := funext fun b => by omega
        rw [e3] at b2
        exact ⟨f1, f2, A, b2, w, io⟩
      · have e' : (if xs.length = n then g xs τ else none) = some τ' := e
        rw [if_neg hl] at e'; cases e'
    | _ => cases e
def sAsg (m : ME) (g : D → Env → Option Env) : MS := fun τ => (m τ).s fun d τ1 => match g d τ1 with
  | some τ2 => .nx τ2
  | none => .bad
theorem impAsg {m : ME} {sl : List Nat} {g : D → Env → Option Env} {D' : Ends} {σ : L2.St} {H : Hp} (h : rdS X.K B W (sAsg m g) D' σ H) : tAsg (rdE X.K B W m) (rdG X.K B sl g) D' σ H := by
  obtain ⟨F, τ, vs, ds, s, p⟩ := h
  refine ⟨F, τ, vs, ds, s, post_imp (post_s (σ := σ) p) (fun d τ1 q v F1 H1 s1 => ?_) fun _ _ q => q⟩
  cases e : g d τ1 with
  | none => simp only [e] at q; exact q.elim
  | some τ2 => simp only [e] at q; exact ⟨F1, τ1, vs, ds, d, s1, τ2, e, fun σ' F' H' s' _ _ => q σ' F' H' s'⟩
theorem s_asg {tg e : Expr} {pos : Pos} {m : ME} {sl : List Nat} {g : D → Env → Option Env} (he : PE X e (rdE X.K B W m)) (hg : PG X tg (rdG X.K B sl g)) (hs : swapsWithSole [tg] e pos.line X.env = pure false := by rfl) (hw : swappedStores [tg] e X.env = pure none := by rfl)
    (h1 : (assignEach [tg] X.env).map (·.2) = [assign tg X.env] := by rfl) : PS X (.Assign [tg] e pos) (rdS X.K B W (sAsg m g)) := PS.imp (ps_asg he hg hs hw h1) fun D σ H h => impAsg h
theorem s_set {i : Nat} {x : Str} {e : Expr} {pos pos' : Pos} {m : ME} (hN : X.N.Nodup) (hi : X.N[i]? = some x) (hx : Loc X.env.scope x) (he : PE X e (rdE X.K B W m)) (hio : ioFree B i := by first | (intro p hp; cases hp; done) | (intro p hp; simp only [List.mem_cons, List.not_mem_nil, or_false] at hp; rcases hp with rfl | rfl <;> simp) | (intro p hp; simp only [List.mem_cons, List.not_mem_nil, or_false] at hp; subst hp; simp)) (hs : swapsWith e (some (.Name x pos')) pos.line X.env = pure false := by rfl)
    (hf : X.fn x = true ∨ X.env.scope.names.lookup x = some .local := by first | exact .inl rfl | exact .inr rfl | assumption) : PS X (.Assign [.Name x pos'] e pos) (rdS X.K B W (sAsg m (gN i))) := PS.imp (ps_set hN hi hx he hs hf) fun D σ H ⟨F, τ, vs, ds, s, p⟩ =>
  ⟨F, τ, vs, ds, s, post_imp (post_s (σ := σ) p) (fun d τ1 q v F1 H1 s1 => q _ F1 H1 (s1.put' hio)) fun _ _ q => q⟩

/-! ### raise, try -/
structure Ec (K : PySem.W.Frag) (mg : Str → Option Value) (ca : Str → Addr) (x : Str) : Prop where
  g : mg x = some (.ref (ca x))
  k : PySem.W.keepIn K (.ref (ca x)) = true
  q : PySem.W.excIn K (ca x) [.type "ValueError", .type "Exception", .type "BaseException", .type "object"] "ValueError.__new__" = true
  b : PySem.W.subIn K (.ref (ca x)) (.type "BaseException") = some true
  t : PySem.W.typeIn K (.ref (ca x)) = some (.type "type")
def sRaise (x : Str) : MS := fun τ => .ex x τ
theorem s_raise {x m : Str} {j} {p p2 pos1 pos : Pos} (c : XOk X W) (E : Ec X.K X.mg B.ca x) (hg : Gl X x) (hdb : (x == ("__debug__" : Str)) = false := by decide) : PS X (.Raise (some (.Call (.Name x p) [.Constant (.str m) j p2] [] pos1)) none pos) (rdS X.K B W (sRaise x)) :=
  PS.imp (ps_raise c.calm c.tk (pmk_own PySem.F.excBase_ValueError E.q E.g E.k (raises_own E.b E.t) hg hdb)) fun D σ H ⟨F, τ, vs, ds, s, p⟩ => p σ F H s
def noEx (r : SR) : SR := match r with
  | .ex _ _ => .bad
  | r => r
def sTry (sub : Str → Option Bool) (b su : MS) : MS := fun τ => match b τ with
  | .ex c τ' => (match sub c with
    | some true => noEx (su τ')
    | some false => .ex c τ'
    | none => .bad)
  | .nx τ' => .nx τ'
  | .rt d τ' => .rt d τ'
  | .bk τ' => .bk τ'
  | .ct τ' => .ct τ'
  | .bad => .bad
theorem s_try {x : Str} {cv : Value} {body suite : List Stmt} {b₀ : Stmt} {np pos pos' : Pos} {b su : MS} (c : XOk X W) (sub : Str → Option Bool) (hn : Names X x cv) (hsub : ∀ y t, sub y = some t → PySem.W.exmOne X.K (.ref (B.ca y)) cv = some t) (hs : X.stack = X.env :: X.outer) (hf : X.env.frame = some X.env.locals)
    (hb : ∀ (W' : WX) (pn : List (Addr × Obj)) (xe : Value → Shared → Prop), XOk (X.tr pn xe) W' → PSs (X.tr pn xe) body (rdS X.K B W' b))
    (hsu : ∀ (a : Addr) (oe : Obj) (cls : Value) (d : Option Addr) (pn : List (Addr × Obj)), PSs (X.suite a ((a, oe) :: pn)) (b₀ :: suite) (rdS X.K B W0 su)) :
    PS X (.Try body [.ExceptHandler (some (.Name x np)) none (b₀ :: suite) pos'] [] [] pos) (rdS X.K B W (sTry sub b su)) :=
  PS.imp (ps_try_only (tb := fun W' => rdS X.K B W' b) (ts := fun _ _ _ => rdS X.K B W0 su) hs hf hn c.tk (fun W' pn xe tk hp => hb W' pn xe ⟨tk, hp, c.calm⟩) fun a oe cls d pn _ _ => hsu a oe cls d pn) fun D σ H ⟨F, τ, vs, ds, s, p⟩ => by
    refine ⟨F, τ, vs, ds, s, ?_⟩
    unfold sTry at p
    cases e : b τ with
    | ex y τ' =>
      rw [e] at p
      intro σ' F' H' s'
      cases es : sub y with
      | none => simp only [es] at p; exact p.elim
      | some t =>
        simp only [es] at p
        refine ⟨t, hsub y t es, fun ht a ha => ?_, fun ht => ?_⟩
        · subst ht
          refine ⟨F', τ', vs, ds, s', ?_⟩
          cases e2 : su τ' with
          | ex y2 τ2 => simp only [e2] at p; exact False.elim p
          | _ => simp only [e2] at p; exact p
        · subst ht; exact p σ' F' H' s'
    | _ => rw [e] at p; exact p

/-! ### what is walked -/
theorem sqOf {K : PySem.W.Frag} {H : Hp} {a : Addr} {xs : List V} (h : H a = some (.lst xs)) : SqL K H a xs := .inl (.inl h)
structure ItOk (K : PySem.W.Frag) (B : Bx) (J : It) (items : List D) (tv : List V) (td : List D) : Prop where
  go : ∀ i F H σ τ, StT K B F H σ τ tv td → i < items.length → J.go i H
  st : ∀ F H σ τ, StT K B F H σ τ tv td → J.stop items.length H
  y : ∀ i d F H σ τ x H' us es, us.length = es.length → items[i]? = some d → StT K B F H σ τ (us ++ tv) (es ++ td) → J.yld i H x H' → ∃ F', StT K B F' H' σ τ (x :: (us ++ tv)) (d :: (es ++ td))
def rdI (K : PySem.W.Frag) (B : Bx) (W : WX) (m : MA) : TI := fun σ H R => ∃ F τ vs ds, StT K B F H σ τ vs ds ∧ post (fun items τ1 => ∀ J us es F' H', us.length = es.length → StT K B F' H' σ τ1 (us ++ vs) (es ++ ds) → ItOk K B J items (us ++ vs) (es ++ ds) → R J H') (exW K B W σ vs ds) (m τ)
theorem PI.imp {tg it : Expr} {t t' : TI} (h : PI X tg it t) (k : ∀ σ H R, t' σ H R → t σ H R) : PI X tg it t' := ⟨fun p s σ H R I q => h.run p s σ H R I (k _ _ _ q)⟩
def iL (m : ME) : MA := fun τ => (m τ).bind fun d τ1 => match freeze d with
  | .lst _ es => .ok es τ1
  | _ => .bad
theorem freeze_fz : ∀ d : D, isFz (freeze d) = true
  | .lst true _ => rfl | .lst false _ => rfl | .obj true _ _ _ => rfl | .obj false _ _ _ => rfl
  | .non => rfl | .bl _ => rfl | .int _ => rfl | .str _ => rfl | .ty _ => rfl | .tup _ => rfl | .cst _ => rfl
theorem StT.freeze1 {K : PySem.W.Frag} {F H : Hp} {σ : L2.St} {τ : Env} {vs : List V} {ds : List D} {v : V} {d : D} (s : StT K B F H σ τ (v :: vs) (d :: ds)) : ∃ F', StT K B F' H σ τ (v :: vs) (Bn.freeze d :: ds) := by
  obtain ⟨F2, sm, ⟨_, _, e2, r, _⟩, s2⟩ := StT.freeze (us := [v]) (es := [d]) s rfl
  cases e2
  exact ⟨F2, s2.push r⟩
theorem itOk_list {K : PySem.W.Frag} {a : Addr} {es : List D} {vs : List V} {ds : List D} : ItOk K B (Itl K a) es (.ref a :: vs) (.lst false es :: ds) := by
  have look : ∀ {F H σ τ}, StT K B F H σ τ (.ref a :: vs) (.lst false es :: ds) → ∃ us, SqL K H a us ∧ RepL K B.ca F es us := fun {F H σ τ} s => by
    obtain ⟨a', us, e, h1, h2⟩ := s.topF rfl
    cases e
    exact ⟨us, sqOf (s.same _ _ h1), h2⟩
  refine ⟨fun i F H σ τ s hi => ?_, fun F H σ τ s => ?_, fun i d F H σ τ x H' us' es' hl hd s y => ?_⟩
  · obtain ⟨us, h1, h2⟩ := look s
    exact ⟨us, us[i]'(by rw [h2.length]; exact hi), h1, by simp [h2.length, hi]⟩
  · obtain ⟨us, h1, h2⟩ := look s
    exact ⟨us, h1, by rw [h2.length]; exact Nat.le_refl _⟩
  · obtain ⟨rfl, y⟩ := y
    obtain ⟨us, h1, h2⟩ := look (s.pops hl)
    obtain ⟨v, e, r⟩ := h2.get hd
    rw [y us h1] at e; cases e
    exact ⟨F, s.push r⟩
theorem itOk_tup {K : PySem.W.Frag} {a : Addr} {es : List D} {vs : List V} {ds : List D} : ItOk K B (Itt K a) es (.ref a :: vs) (.tup es :: ds) := by
  have look : ∀ {F H σ τ}, StT K B F H σ τ (.ref a :: vs) (.tup es :: ds) → ∃ us, SqT K H a us ∧ RepL K B.ca F es us := fun {F H σ τ} s => by
    obtain ⟨a', us, e, h1, h2⟩ := s.topF rfl
    cases e
    exact ⟨us, sqT_same s.same h1, h2⟩
  refine ⟨fun i F H σ τ s hi => ?_, fun F H σ τ s => ?_, fun i d F H σ τ x H' us' es' hl hd s y => ?_⟩
  · obtain ⟨us, h1, h2⟩ := look s
    exact ⟨us, us[i]'(by rw [h2.length]; exact hi), h1, by simp [h2.length, hi]⟩
  · obtain ⟨us, h1, h2⟩ := look s
    exact ⟨us, h1, by rw [h2.length]; exact Nat.le_refl _⟩
  · obtain ⟨rfl, y⟩ := y
    obtain ⟨us, h1, h2⟩ := look (s.pops hl)
    obtain ⟨v, e, r⟩ := h2.get hd
    rw [y us h1] at e; cases e
    exact ⟨F, s.push r⟩
def enumD : Nat → List D → List D
  | _, [] => []
  | i, d :: ds => .tup [.int (i : Nat), d] :: enumD (i + 1) ds
theorem enumD_len : ∀ (i : Nat) (ds : List D), (enumD i ds).length = ds.length
  | _, [] => rfl
  | i, d :: ds => by show (enumD (i + 1) ds).length + 1 = ds.length + 1; rw [enumD_len]
theorem enumD_get : ∀ (i j : Nat) (ds : List D), (enumD i ds)[j]? = ds[j]?.map fun d => .tup [.int ((i + j : Nat) : Int), d]
  | _, j, [] => by simp [enumD]
  | i, 0, d :: ds => by simp [enumD]
  | i, j + 1, d :: ds => by
    show (enumD (i + 1) ds)[j]? = _
    rw [enumD_get (i + 1) j ds]
    simp [Nat.add_assoc, Nat.add_comm 1 j]
theorem itOk_enum {K : PySem.W.Frag} {a : Addr} {es : List D} {vs : List V} {ds : List D} : ItOk K B (Ite K a) (enumD 0 es) (.ref a :: vs) (.lst false es :: ds) := by
  have look : ∀ {F H σ τ}, StT K B F H σ τ (.ref a :: vs) (.lst false es :: ds) → ∃ us, SqL K H a us ∧ RepL K B.ca F es us := fun {F H σ τ} s => by
    obtain ⟨a', us, e, h1, h2⟩ := s.topF rfl
    cases e
    exact ⟨us, sqOf (s.same _ _ h1), h2⟩
  refine ⟨fun i F H σ τ s hi => ?_, fun F H σ τ s => ?_, fun i d F H σ τ x H' us' es' hl hd s y => ?_⟩
  · obtain ⟨us, h1, h2⟩ := look s
    rw [enumD_len] at hi
    exact ⟨us, us[i]'(by rw [h2.length]; exact hi), h1, by simp [h2.length, hi]⟩
  · obtain ⟨us, h1, h2⟩ := look s
    exact ⟨us, h1, by rw [enumD_len, h2.length]; exact Nat.le_refl _⟩
  · obtain ⟨T, x', rfl, hT, rfl, y⟩ := y
    obtain ⟨us, h1, h2⟩ := look (s.pops hl)
    rw [enumD_get] at hd
    cases e : es[i]? with
    | none => rw [e] at hd; cases hd
    | some d' =>
      rw [e] at hd
      obtain ⟨v, ev, r⟩ := h2.get e
      rw [y us h1] at ev; cases ev
      have hd' : D.tup [.int ((0 + i : Nat) : Int), d'] = d := Option.some.inj hd
      subst hd'
      rw [Nat.zero_add]
      exact ⟨_, s.newTup hT ⟨.int (i : Nat), [x'], rfl, rfl, x', [], rfl, r, rfl⟩⟩
def zipD : List D → List D → List D
  | x :: xs, y :: ys => .tup [x, y] :: zipD xs ys
  | _, _ => []
theorem zipD_len : ∀ xs ys : List D, (zipD xs ys).length = min xs.length ys.length
  | [], ys => by simp [zipD]
  | x :: xs, [] => by simp [zipD]
  | x :: xs, y :: ys => by
    show (zipD xs ys).length + 1 = min (xs.length + 1) (ys.length + 1)
    rw [zipD_len]; omega
theorem zipD_get : ∀ (i : Nat) (xs ys : List D) (d : D), (zipD xs ys)[i]? = some d → ∃ x y, xs[i]? = some x ∧ ys[i]? = some y ∧ d = .tup [x, y]
  | _, [], ys, d, h => by simp [zipD] at h
  | _, x :: xs, [], d, h => by simp [zipD] at h
  | 0, x :: xs, y :: ys, d, h => ⟨x, y, rfl, rfl, (Option.some.inj h).symm⟩
  | i + 1, x :: xs, y :: ys, d, h => by simpa using zipD_get i xs ys d h
theorem itOk_zip {K : PySem.W.Frag} {a b : Addr} {es fs : List D} {vs : List V} {ds : List D} : ItOk K B (Itz K a b) (zipD es fs) (.ref b :: .ref a :: vs) (.lst false fs :: .lst false es :: ds) := by
  have look : ∀ {F H σ τ}, StT K B F H σ τ (.ref b :: .ref a :: vs) (.lst false fs :: .lst false es :: ds) → ∃ us ws, SqL K H a us ∧ RepL K B.ca F es us ∧ SqL K H b ws ∧ RepL K B.ca F fs ws := fun {F H σ τ} s => by
    obtain ⟨a', us, e, h1, h2⟩ := s.topF rfl
    obtain ⟨a'', ws, e', h1', h2'⟩ := s.pop.topF rfl
    cases e; cases e'
    exact ⟨ws, us, sqOf (s.same _ _ h1'), h2', sqOf (s.same _ _ h1), h2⟩
  refine ⟨fun i F H σ τ s hi => ?_, fun F H σ τ s => ?_, fun i d F H σ τ x H' us' es' hl hd s y => ?_⟩
  · obtain ⟨us, ws, h1, h2, h3, h4⟩ := look s
    rw [zipD_len] at hi
    have i1 : i < us.length := by rw [h2.length]; omega
    have i2 : i < ws.length := by rw [h4.length]; omega
    exact ⟨us, ws, us[i], ws[i], h1, h3, by simp [i1], by simp [i2]⟩
  · obtain ⟨us, ws, h1, h2, h3, h4⟩ := look s
    refine ⟨us, ws, h1, h3, ?_⟩
    rw [zipD_len, h2.length, h4.length]; omega
  · obtain ⟨T, x', y', rfl, hT, rfl, y1, y2⟩ := y
    obtain ⟨us, ws, h1, h2, h3, h4⟩ := look (s.pops hl)
    obtain ⟨d1, d2, g1, g2, rfl⟩ := zipD_get i es fs d hd
    obtain ⟨v1, k1, r1⟩ := h2.get g1
    obtain ⟨v2, k2, r2⟩ := h4.get g2
    rw [y1 us h1] at k1; cases k1
    rw [y2 ws h3] at k2; cases k2
    exact ⟨_, s.newTup hT ⟨x', [y'], rfl, r1, y', [], rfl, r2, rfl⟩⟩
theorem itOk_rev {K : PySem.W.Frag} {a : Addr} {es : List D} {vs : List V} {ds : List D} {n : Nat} (hn : n = es.length) : ItOk K B (Itv K a n) es.reverse (.ref a :: vs) (.lst false es :: ds) := by
  subst hn
  have look : ∀ {F H σ τ}, StT K B F H σ τ (.ref a :: vs) (.lst false es :: ds) → ∃ us, SqL K H a us ∧ RepL K B.ca F es us := fun {F H σ τ} s => by
    obtain ⟨a', us, e, h1, h2⟩ := s.topF rfl
    cases e
    exact ⟨us, sqOf (s.same _ _ h1), h2⟩
  refine ⟨fun i F H σ τ s hi => ?_, fun F H σ τ s => ?_, fun i d F H σ τ x H' us' es' hl hd s y => ?_⟩
  · obtain ⟨us, h1, h2⟩ := look s
    rw [List.length_reverse] at hi
    have i2 : es.length - 1 - i < us.length := by rw [h2.length]; omega
    exact ⟨hi, us, us[es.length - 1 - i], h1, by simp [i2]⟩
  · show es.length ≤ es.reverse.length
    rw [List.length_reverse]; exact Nat.le_refl _
  · obtain ⟨rfl, y⟩ := y
    obtain ⟨us, h1, h2⟩ := look (s.pops hl)
    have hi : i < es.length := by
      have := (List.getElem?_eq_some_iff.mp hd).1
      rwa [List.length_reverse] at this
    rw [List.getElem?_reverse hi] at hd
    obtain ⟨v, e, r⟩ := h2.get hd
    rw [y us h1] at e; cases e
    exact ⟨F, s.push r⟩
def rangeD (lo : Int) (n : Nat) : List D := (List.range n).map fun k => D.int (lo + (k : Nat))
theorem itOk_range {K : PySem.W.Frag} {lo : Int} {n : Nat} {vs : List V} {ds : List D} : ItOk K B (Itr lo n) (rangeD lo n) vs ds := by
  refine ⟨fun i F H σ τ s hi => ?_, fun F H σ τ s => ?_, fun i d F H σ τ x H' us' es' hl hd s y => ?_⟩
  · show i < n; simpa [rangeD] using hi
  · show n ≤ (rangeD lo n).length; simp [rangeD]
  · obtain ⟨rfl, rfl⟩ := y
    have hi : i < n := by simpa [rangeD] using (List.getElem?_eq_some_iff.mp hd).1
    have e : d = .int (lo + (i : Nat)) := by
      unfold rangeD at hd
      rw [List.getElem?_map, List.getElem?_range hi] at hd
      exact (Option.some.inj hd).symm
    subst e
    exact ⟨F, s.push (d := .int _) rfl⟩
def strD (s : Str) : List D := s.cps.toList.map fun c => D.str ⟨#[c]⟩
theorem itOk_str {K : PySem.W.Frag} {z : Str} {vs : List V} {ds : List D} : ItOk K B (Its z) (strD z) vs ds := by
  refine ⟨fun i F H σ τ s hi => ?_, fun F H σ τ s => ?_, fun i d F H σ τ x H' us' es' hl hd s y => ?_⟩
  · show i < z.cps.size; simpa [strD] using hi
  · show z.cps.size ≤ (strD z).length; simp [strD]
  · obtain ⟨rfl, c, hc, rfl⟩ := y
    have e : d = .str ⟨#[c]⟩ := by
      unfold strD at hd
      rw [List.getElem?_map, Array.getElem?_toList, hc] at hd
      exact (Option.some.inj hd).symm
    subst e
    exact ⟨F, s.push (d := .str _) rfl⟩

theorem i_list {tg l : Expr} {m : ME} (hl : PE X l (rdE X.K B W m)) : PI X tg l (rdI X.K B W (iL m)) := PI.imp (pi_list hl) fun σ H R ⟨F, τ, vs, ds, s, p⟩ => by
  refine ⟨F, τ, vs, ds, s, post_imp (post_bind p) (fun d τ1 q v F1 H1 s1 => ?_) fun _ _ q => q⟩
  obtain ⟨F2, s2⟩ := s1.freeze1
  have hz := freeze_fz d
  cases e : freeze d with
  | lst m es =>
    cases m with
    | true => rw [e] at hz; cases hz
    | false =>
      simp only [e] at q
      rw [e] at s2
      obtain ⟨a, us, ev, h1, h2⟩ := s2.topF rfl
      subst ev
      exact ⟨a, rfl, ⟨us, sqOf (s2.same _ _ h1)⟩, q (Itl X.K a) [.ref a] [.lst false es] F2 H1 rfl s2 itOk_list⟩
  | _ => simp only [e] at q; exact False.elim q
def iT (m : ME) : MA := fun τ => (m τ).bind fun d τ1 => match d with
  | .tup es => .ok es τ1
  | _ => .bad
theorem i_tup {tg l : Expr} {m : ME} (hl : PE X l (rdE X.K B W m)) : PI X tg l (rdI X.K B W (iT m)) := PI.imp (pi_tup hl) fun σ H R ⟨F, τ, vs, ds, s, p⟩ => by
  refine ⟨F, τ, vs, ds, s, post_imp (post_bind p) (fun d τ1 q v F1 H1 s1 => ?_) fun _ _ q => q⟩
  cases d with
  | tup es =>
    obtain ⟨a, us, ev, h1, h2⟩ := s1.topF rfl
    subst ev
    exact ⟨a, rfl, ⟨us, sqT_same s1.same h1⟩, q (Itt X.K a) [.ref a] [.tup es] F1 H1 rfl s1 itOk_tup⟩
  | _ => exact False.elim q
def iS (m : ME) : MA := fun τ => (m τ).bind fun d τ1 => match d with
  | .str z => .ok (strD z) τ1
  | _ => .bad
theorem i_str {tg l : Expr} {m : ME} (hl : PE X l (rdE X.K B W m)) : PI X tg l (rdI X.K B W (iS m)) := PI.imp (pi_str hl) fun σ H R ⟨F, τ, vs, ds, s, p⟩ => by
  refine ⟨F, τ, vs, ds, s, post_imp (post_bind p) (fun d τ1 q v F1 H1 s1 => ?_) fun _ _ q => q⟩
  cases d with
  | str z => exact ⟨z, s1.topF rfl, q (Its z) [] [] F1 H1 rfl s1.pop itOk_str⟩
  | _ => exact False.elim q
def iR1 (m : MA) : MA := fun τ => (m τ).bind fun ds τ1 => match ds with
  | [.int j] => if -(2 ^ 62) ≤ j ∧ j < 2 ^ 62 then .ok (rangeD 0 j.toNat) τ1 else .bad
  | _ => .bad
def iR2 (m : MA) : MA := fun τ => (m τ).bind fun ds τ1 => match ds with
  | [.int i, .int j] => if -(2 ^ 62) ≤ i ∧ i < 2 ^ 62 ∧ -(2 ^ 62) ≤ j ∧ j < 2 ^ 62 then .ok (rangeD i (j - i).toNat) τ1 else .bad
  | _ => .bad
theorem i_range1 {tg a : Expr} {p pos : Pos} {m : MA} (hg : Gl X "range") (hm : X.mg "range" = none) (ha : PA X [a] (rdA X.K B W m)) (hs : starEach [a] X.env = [(false, eval a X.env)] := by rfl) : PI X tg (.Call (.Name "range" p) [a] [] pos) (rdI X.K B W (iR1 m)) := PI.imp (pi_range1 hg hm ha hs) fun σ H R ⟨F, τ, vs, ds, s, p⟩ => by
  refine ⟨F, τ, vs, ds, s, post_imp (post_bind p) (fun es τ1 q us F1 H1 hl s1 => ?_) fun _ _ q => q⟩
  have g := s1.pops hl
  match es, q, s1, hl with
  | [.int j], q, s1, hl =>
    match us, s1, hl with
    | [v], s1, _ =>
      cases (show v = .int j from s1.topF rfl)
      by_cases z : -(2 ^ 62) ≤ j ∧ j < 2 ^ 62
      · simp only [z, and_self, if_true] at q
        exact ⟨j, rfl, z.1, z.2, q (Itr 0 j.toNat) [] [] F1 H1 rfl g itOk_range⟩
      · simp only [z, if_false] at q; exact False.elim q
theorem i_range2 {tg a b : Expr} {p pos : Pos} {m : MA} (hg : Gl X "range") (hm : X.mg "range" = none) (ha : PA X [a, b] (rdA X.K B W m)) (hs : starEach [a, b] X.env = [(false, eval a X.env), (false, eval b X.env)] := by rfl) (hs2 : starEach [b] X.env = [(false, eval b X.env)] := by rfl) :
    PI X tg (.Call (.Name "range" p) [a, b] [] pos) (rdI X.K B W (iR2 m)) := PI.imp (pi_range2 hg hm ha hs hs2) fun σ H R ⟨F, τ, vs, ds, s, p⟩ => by
  refine ⟨F, τ, vs, ds, s, post_imp (post_bind p) (fun es τ1 q us F1 H1 hl s1 => ?_) fun _ _ q => q⟩
  have g := s1.pops hl
  match es, q, s1, hl with
  | [.int i, .int j], q, s1, hl =>
    match us, s1, hl with
    | [u, v], s1, _ =>
      cases (show u = .int i from s1.topF rfl)
      cases (show v = .int j from s1.pop.topF rfl)
      by_cases z : -(2 ^ 62) ≤ i ∧ i < 2 ^ 62 ∧ -(2 ^ 62) ≤ j ∧ j < 2 ^ 62
      · simp only [z, and_self, if_true] at q
        exact ⟨i, j, rfl, z, q (Itr i (j - i).toNat) [] [] F1 H1 rfl g itOk_range⟩
      · simp only [z, if_false] at q; exact False.elim q
def iE (m : MA) : MA := fun τ => (m τ).bind fun ds τ1 => match freezeL ds with
  | [.lst _ es] => .ok (enumD 0 es) τ1
  | _ => .bad
def iV (m : MA) : MA := fun τ => (m τ).bind fun ds τ1 => match freezeL ds with
  | [.lst _ es] => .ok es.reverse τ1
  | _ => .bad
def iZ (m : MA) : MA := fun τ => (m τ).bind fun ds τ1 => match freezeL ds with
  | [.lst _ es, .lst _ fs] => .ok (zipD es fs) τ1
  | _ => .bad
theorem StT.pushL {K : PySem.W.Frag} {F H : Hp} {σ : L2.St} {τ : Env} {vs us : List V} {ds es : List D} (s : StT K B F H σ τ vs ds) (h : RepL K B.ca F es us) : StT K B F H σ τ (us ++ vs) (es ++ ds) := by
  obtain ⟨f1, f2, A, b, w, io⟩ := s
  have b2 := (h.os (H := H)).append b
  have e3 : (fun b => 0 + f2 b) = f2 := funext fun b => by omega
  rw [e3] at b2
  exact ⟨f1, f2, A, b2, w, io⟩
theorem i_enum {e : Expr} {p pos tpos : Pos} {elts : List Expr} {kk : Nat} {m : MA} (hg : Gl X "enumerate") (hm : X.mg "enumerate" = none) (ha : PA X [e] (rdA X.K B W m)) (hs : starEach [e] X.env = [(false, eval e X.env)] := by rfl) :
    PI X (.Tuple elts kk tpos) (.Call (.Name "enumerate" p) [e] [] pos) (rdI X.K B W (iE m)) := PI.imp (pi_enum hg hm ha hs) fun σ H R ⟨F, τ, vs, ds, s, p⟩ => by
  refine ⟨F, τ, vs, ds, s, post_imp (post_bind p) (fun es τ1 q us F1 H1 hl s1 => ?_) fun _ _ q => q⟩
  obtain ⟨F2, sm, rl, s2⟩ := s1.freeze hl
  match h : freezeL es, q, rl with
  | [.lst b xs], q, rl =>
    obtain ⟨v, r, rfl, r1, r2⟩ := rl
    cases (show r = [] from r2)
    cases b with
    | true => exact r1.elim
    | false =>
      have s3 := s2.push r1
      obtain ⟨a, ws, rfl, h1, h2⟩ := r1
      exact ⟨a, ws, rfl, sqOf (s2.same _ _ h1), q (Ite X.K a) [.ref a] [.lst false xs] F2 H1 rfl s3 itOk_enum⟩
theorem i_rev {tg e : Expr} {p pos : Pos} {m : MA} (hg : Gl X "reversed") (hm : X.mg "reversed" = none) (ha : PA X [e] (rdA X.K B W m)) (hs : starEach [e] X.env = [(false, eval e X.env)] := by rfl) :
    PI X tg (.Call (.Name "reversed" p) [e] [] pos) (rdI X.K B W (iV m)) := PI.imp (pi_reversed hg hm ha hs) fun σ H R ⟨F, τ, vs, ds, s, p⟩ => by
  refine ⟨F, τ, vs, ds, s, post_imp (post_bind p) (fun es τ1 q us F1 H1 hl s1 => ?_) fun _ _ q => q⟩
  obtain ⟨F2, sm, rl, s2⟩ := s1.freeze hl
  match h : freezeL es, q, rl with
  | [.lst b xs], q, rl =>
    obtain ⟨v, r, rfl, r1, r2⟩ := rl
    cases (show r = [] from r2)
    cases b with
    | true => exact r1.elim
    | false =>
      have s3 := s2.push r1
      obtain ⟨a, ws, rfl, h1, h2⟩ := r1
      exact ⟨a, ws, rfl, sqOf (s2.same _ _ h1), q (Itv X.K a ws.length) [.ref a] [.lst false xs] F2 H1 rfl s3 (itOk_rev h2.length)⟩
theorem i_zip {e e2 : Expr} {p pos tpos : Pos} {elts : List Expr} {kk : Nat} {m : MA} (hg : Gl X "zip") (hm : X.mg "zip" = none) (ha : PA X [e, e2] (rdA X.K B W m))
    (hs : starEach [e, e2] X.env = (false, eval e X.env) :: starEach [e2] X.env := by rfl) (hpl : (backTo pos (starEach [e2] X.env)).any (·.1) = false := by rfl) :
    PI X (.Tuple elts kk tpos) (.Call (.Name "zip" p) [e, e2] [] pos) (rdI X.K B W (iZ m)) := PI.imp (pi_zip hg hm ha hs hpl) fun σ H R ⟨F, τ, vs, ds, s, p⟩ => by
  refine ⟨F, τ, vs, ds, s, post_imp (post_bind p) (fun es τ1 q us F1 H1 hl s1 => ?_) fun _ _ q => q⟩
  obtain ⟨F2, sm, rl, s2⟩ := s1.freeze hl
  match h : freezeL es, q, rl with
  | [.lst b xs, .lst b2 ys], q, rl =>
    obtain ⟨v, r, rfl, r1, v2, r', rfl, r2, r3⟩ := rl
    cases (show r' = [] from r3)
    cases b with
    | true => exact r1.elim
    | false =>
      cases b2 with
      | true => exact r2.elim
      | false =>
        have s3 := (s2.push r1).push r2
        obtain ⟨a, ws, rfl, h1, h2⟩ := r1
        obtain ⟨a', ws', rfl, h1', h2'⟩ := r2
        exact ⟨a, a', ws, ws', rfl, sqOf (s2.same _ _ h1), sqOf (s2.same _ _ h1'), q (Itz X.K a a') [.ref a', .ref a] [.lst false ys, .lst false xs] F2 H1 rfl s3 itOk_zip⟩
end
end Bn

/-! Loops, comprehensions; a def by its function. -/
namespace Bn
open PySem PySem.Spec PyProof.Rows L2

/-! ### for, while -/
def forL (g : D → Env → Option Env) (b : MS) : List D → Env → SR
  | [], τ => .nx τ
  | d :: r, τ => match g d τ with
    | none => .bad
    | some τ1 => match b τ1 with
      | .nx τ2 => forL g b r τ2
      | .ct τ2 => forL g b r τ2
      | .bk τ2 => .nx τ2
      | .rt d τ2 => .rt d τ2
      | .ex c τ2 => .ex c τ2
      | .bad => .bad
def sFor (m : MA) (g : D → Env → Option Env) (b : MS) : MS := fun τ => (m τ).s fun items τ1 => forL g b items τ1
def whileM (c : MT) (b : MS) : Nat → Env → SR
  | 0, _ => .bad
  | n + 1, τ => match c τ with
    | .ok true τ1 => (match b τ1 with
      | .nx τ2 => whileM c b n τ2
      | .ct τ2 => whileM c b n τ2
      | .bk τ2 => .nx τ2
      | .rt d τ2 => .rt d τ2
      | .ex e τ2 => .ex e τ2
      | .bad => .bad)
    | .ok false τ1 => .nx τ1
    | .ex e τ1 => .ex e τ1
    | .bad => .bad
def sWhile (fuel : Env → Nat) (c : MT) (b : MS) : MS := fun τ => whileM c b (fuel τ) τ
section
variable {X : Cx} {B : Bx} {W : WX}
theorem postS_pops {K : PySem.W.Frag} {us vs : List V} {es ds : List D} {D' : Ends} {r : SR} (hl : us.length = es.length) (h : postS K B W vs ds D' r) : postS K B W (us ++ vs) (es ++ ds) D' r := by
  cases r with
  | nx τ => exact fun σ F H s => h σ F H (s.pops hl)
  | rt d τ => exact fun v σ F H s => h v σ F H (StT.pops (us := us) (es := es) (by
      obtain ⟨f1, f2, A, ⟨v', r', g1, g2, e, b1, b2, q⟩, w, io⟩ := s
      cases e
      obtain ⟨g3, g4, c1, c2, q2⟩ := b2.split' hl
      exact ⟨f1, f2, A, c1.append (us := v :: vs) (es := d :: ds) (g := fun b => g1 b + g4 b) ⟨v, vs, g1, g4, rfl, b1, c2, fun _ => rfl⟩ |> fun z => by
        have e : (fun b => g3 b + (g1 b + g4 b)) = f2 := funext fun b => by rw [q, q2]; omega
        rw [e] at z; exact z, w, io⟩) hl)
  | bk τ => exact fun σ F H s => h σ F H (s.pops hl)
  | ct τ => exact fun σ F H s => h σ F H (s.pops hl)
  | ex c τ => exact fun σ F H s => h σ F H (s.pops hl)
  | bad => exact h
theorem for_core {J : It} {items : List D} {tv : List V} {td : List D} {g : D → Env → Option Env} {sl : List Nat} {b : MS} {K : PySem.W.Frag} {σ : L2.St} {H F : Hp} {τ : Env} {D' : Ends} (ok : ItOk K B J items tv td) (s : StT K B F H σ τ tv td) (p : postS K B W tv td D' (forL g b items τ)) :
    ∃ W' : Nat → Nat → L2.St → Hp → Prop, (∃ m, W' 0 m σ H) ∧ ∀ i m σ H, W' i m σ H → (J.stop i H ∧ D'.nx σ H) ∨ (J.go i H ∧ ∃ N : L2.St → Hp → Prop, (∀ σ' H', N σ' H' → ∃ m', m' < m ∧ W' (i + 1) m' σ' H') ∧
      ∀ x H', J.yld i H x H' → rdG K B sl g x σ H' fun σ2 H2 => rdS K B W b { D' with nx := N, ct := N, bk := D'.nx } σ2 H2) := by
  refine ⟨fun i m σ H => m = items.length - i ∧ i ≤ items.length ∧ ∃ F τ, StT K B F H σ τ tv td ∧ postS K B W tv td D' (forL g b (items.drop i) τ), ⟨_, rfl, Nat.zero_le _, F, τ, s, p⟩, ?_⟩
  rintro i m σ H ⟨rfl, hi, F, τ, s, p⟩
  by_cases h : i < items.length
  · refine .inr ⟨ok.go i F H σ τ s h, fun σ' H' => ∃ F τ, StT K B F H' σ' τ tv td ∧ postS K B W tv td D' (forL g b (items.drop (i + 1)) τ), fun σ' H' ⟨F', τ', s', p'⟩ => ⟨items.length - (i + 1), by omega, rfl, h, F', τ', s', p'⟩, fun x H' y => ?_⟩
    have e : items[i]? = some items[i] := by simp [h]
    obtain ⟨F', s'⟩ := ok.y i _ F H σ τ x H' [] [] rfl e s y
    rw [List.drop_eq_getElem_cons h] at p
    unfold forL at p
    cases eg : g items[i] τ with
    | none => rw [eg] at p; exact p.elim
    | some τ1 =>
      rw [eg] at p
      refine ⟨F', τ, tv, td, _, s', τ1, eg, fun σ2 F2 H2 s2 _ _ => ⟨F2, τ1, tv, td, s2, ?_⟩⟩
      cases eb : b τ1 with
      | nx τ2 => simp only [eb] at p; exact fun σ3 F3 H3 s3 => ⟨F3, τ2, s3, p⟩
      | ct τ2 => simp only [eb] at p; exact fun σ3 F3 H3 s3 => ⟨F3, τ2, s3, p⟩
      | bk τ2 => simp only [eb] at p; exact p
      | rt d τ2 => simp only [eb] at p; exact p
      | ex c τ2 => simp only [eb] at p; exact p
      | bad => simp only [eb] at p; exact p
  · have e : i = items.length := by omega
    subst e
    rw [List.drop_length] at p
    exact .inl ⟨ok.st F H σ τ s, p σ F H s⟩
theorem s_for {tg it : Expr} {body : List Stmt} {pos : Pos} {m : MA} {sl : List Nat} {g : D → Env → Option Env} {b : MS} (c : XOk X W) (hi : PI X tg it (rdI X.K B W m)) (hg : PG X tg (rdG X.K B sl g)) (hb : PSs X body (rdS X.K B W b))
    (hs : ∀ x, foldedSetIterable it X.env x = pure x := by intro _; rfl) : PS X (.For tg it body [] pos) (rdS X.K B W (sFor m g b)) := PS.imp (ps_for c.hp c.calm hi hg hb hs) fun D' σ H ⟨F, τ, vs, ds, s, p⟩ =>
  ⟨F, τ, vs, ds, s, post_imp (post_s (σ := σ) p) (fun items τ1 q J us es F' H' hl s' ok => for_core ok s' (postS_pops hl q)) fun _ _ q => q⟩
theorem s_while {c : Expr} {body : List Stmt} {pos : Pos} {t : MT} {b : MS} (k : XOk X W) (fuel : Env → Nat) (hc : PT X c (rdT X.K B W t)) (hb : PSs X body (rdS X.K B W b)) : PS X (.While c body [] pos) (rdS X.K B W (sWhile fuel t b)) := PS.imp (ps_while k.hp hc hb) fun D' σ H ⟨F, τ, vs, ds, s, p⟩ => by
  refine ⟨fun m σ H => ∃ F τ, StT X.K B F H σ τ vs ds ∧ postS X.K B W vs ds D' (whileM t b m τ), ⟨_, F, τ, s, p⟩, ?_⟩
  rintro m σ H ⟨F, τ, s, p⟩
  cases m with
  | zero => exact False.elim p
  | succ m =>
    unfold whileM at p
    refine ⟨F, τ, vs, ds, s, ?_⟩
    cases et : t τ with
    | bad => rw [et] at p; exact p
    | ex e τ1 => rw [et] at p; exact fun F1 H1 s1 => p σ F1 H1 s1
    | ok x τ1 =>
      rw [et] at p
      intro F1 H1 s1
      cases x with
      | false => exact p σ F1 H1 s1
      | true =>
        refine ⟨fun σ' H' => ∃ F τ, StT X.K B F H' σ' τ vs ds ∧ postS X.K B W vs ds D' (whileM t b m τ), fun σ' H' ⟨F', τ', s', p'⟩ => ⟨m, Nat.lt_succ_self m, F', τ', s', p'⟩, F1, τ1, vs, ds, s1, ?_⟩
        cases eb : b τ1 with
        | nx τ2 => simp only [eb] at p; exact fun σ3 F3 H3 s3 => ⟨F3, τ2, s3, p⟩
        | ct τ2 => simp only [eb] at p; exact fun σ3 F3 H3 s3 => ⟨F3, τ2, s3, p⟩
        | bk τ2 => simp only [eb] at p; exact p
        | rt d τ2 => simp only [eb] at p; exact p
        | ex c τ2 => simp only [eb] at p; exact p
        | bad => simp only [eb] at p; exact p

/-! ### list comprehensions -/
def wipeE (τ : Env) : List Nat → Env
  | [] => τ
  | v :: vs => (wipeE τ vs).set v none
def lcL (own : List Nat) (g : D → Env → Option Env) (t : MT) (m : ME) : List D → List D → Env → R (List D)
  | [], acc, τ => .ok acc τ
  | d :: r, acc, τ => match g d τ with
    | none => .bad
    | some τ1 => (t τ1).bind fun b τ2 => if b = true then (m τ2).bind fun e τ3 => if acc.length < 1000000 then lcL own g t m r (acc ++ [e]) (wipeE τ3 own) else .bad else lcL own g t m r acc (wipeE τ2 own)
def eLc (own : List Nat) (it : MA) (g : D → Env → Option Env) (t : MT) (m : ME) : ME := fun τ => (it τ).bind fun items τ1 => match lcL own g t m items [] (wipeE τ1 own) with
  | .ok acc τ2 => .ok (.lst true acc) τ2
  | _ => .bad
theorem Sl.reset {K : PySem.W.Frag} {ca : Str → Addr} {F H : Hp} : ∀ {τ : Env} {σ σ' : L2.St} {f : Ct}, Sl K ca F H τ σ f → σ'.length = σ.length → (∀ (j : Nat) (d : D), τ[j]? = some (some d) → σ'[j]? = σ[j]?) → Sl K ca F H τ σ' f
  | [], σ, σ', f, h, hl, k => by
    obtain ⟨rfl, h2⟩ := h
    exact ⟨List.eq_nil_of_length_eq_zero hl, h2⟩
  | none :: τ, _, σ', f, ⟨x, r, h1, h2⟩, hl, k => by
    subst h1
    cases σ' with
    | nil => cases hl
    | cons y r' => exact ⟨y, r', rfl, h2.reset (by simpa using hl) fun j d hj => by simpa using k (j + 1) d (by simpa using hj)⟩
  | some d :: τ, _, σ', f, ⟨v, r, f1, f2, h1, h2, h3, h4⟩, hl, k => by
    subst h1
    cases σ' with
    | nil => cases hl
    | cons y r' =>
      have e : some y = some (some v) := by simpa using k 0 d (by simp)
      cases e
      exact ⟨v, r', f1, f2, rfl, h2, h3.reset (by simpa using hl) fun j d hj => by simpa using k (j + 1) d (by simpa using hj), h4⟩
theorem wipe_out {σ : L2.St} {j : Nat} : ∀ {own : List Nat}, j ∉ own → (wipe σ own)[j]? = σ[j]?
  | [], _ => rfl
  | v :: vs, h => by
    unfold wipe
    rw [List.getElem?_set_ne (fun e => h (by simp [e]))]
    exact wipe_out fun z => h (List.mem_cons_of_mem _ z)
theorem wipeE_in {τ : Env} {j : Nat} {d : D} : ∀ {own : List Nat}, (wipeE τ own)[j]? = some (some d) → j ∉ own
  | [], _ => by simp
  | v :: vs, h => by
    unfold wipeE at h
    by_cases e : v = j
    · subst e
      by_cases hv : v < (wipeE τ vs).length
      · rw [List.getElem?_set_self hv] at h; cases h
      · rw [List.getElem?_eq_none (by simpa using hv)] at h; cases h
    · rw [List.getElem?_set_ne e] at h
      simp only [List.mem_cons, not_or]
      exact ⟨fun z => e z.symm, wipeE_in h⟩
theorem wipe_in {σ : L2.St} {j : Nat} : ∀ {own : List Nat}, j ∈ own → j < σ.length → (wipe σ own)[j]? = some none
  | [], h, _ => by simp at h
  | v :: vs, h, hl => by
    unfold wipe
    by_cases e : v = j
    · subst e; rw [List.getElem?_set_self (by rw [wipe_length]; exact hl)]
    · rw [List.getElem?_set_ne e]
      exact wipe_in (by rcases List.mem_cons.mp h with z | z; exact absurd z.symm e; exact z) hl
theorem wipe_eq {a b : L2.St} {own : List Nat} (hl : a.length = b.length) (h : ∀ j, j ∉ own → a[j]? = b[j]?) : wipe a own = wipe b own := by
  apply List.ext_getElem?
  intro j
  by_cases e : j ∈ own
  · by_cases hj : j < a.length
    · rw [wipe_in e hj, wipe_in e (by omega)]
    · rw [List.getElem?_eq_none (by rw [wipe_length]; omega), List.getElem?_eq_none (by rw [wipe_length]; omega)]
  · rw [wipe_out e, wipe_out e]; exact h j e
theorem wipe_wipe {σ : L2.St} {own : List Nat} : wipe (wipe σ own) own = wipe σ own := wipe_eq (wipe_length σ own) fun j h => wipe_out h
theorem StT.reset {K : PySem.W.Frag} {F H : Hp} {σ σ' : L2.St} {τ : Env} {vs : List V} {ds : List D} (s : StT K B F H σ τ vs ds) (hl : σ'.length = σ.length) (k : ∀ (j : Nat) (d : D), τ[j]? = some (some d) → σ'[j]? = σ[j]?) (io : IoOk B σ') : StT K B F H σ' τ vs ds := by
  obtain ⟨f1, f2, a, b, w, _⟩ := s
  exact ⟨f1, f2, a.reset hl k, b, w, io⟩
theorem StT.wipeE {K : PySem.W.Frag} {F H : Hp} {σ : L2.St} {τ : Env} {vs : List V} {ds : List D} (s : StT K B F H σ τ vs ds) : ∀ own : List Nat, StT K B F H σ (Bn.wipeE τ own) vs ds
  | [] => s
  | _ :: own => (s.wipeE own).forget
def ioFreeL (B : Bx) (own : List Nat) : Prop := ∀ p ∈ B.io, p.1 ∉ own
theorem StT.wiped {K : PySem.W.Frag} {F H : Hp} {σ : L2.St} {τ : Env} {vs : List V} {ds : List D} {own : List Nat} (s : StT K B F H σ τ vs ds) (hio : ioFreeL B own) : StT K B F H (wipe σ own) (Bn.wipeE τ own) vs ds := by
  have io : IoOk B σ := by obtain ⟨_, _, _, _, _, io⟩ := s; exact io
  exact (s.wipeE own).reset (wipe_length _ _) (fun j d h => wipe_out (wipeE_in h)) fun p hp => by rw [wipe_out (hio p hp)]; exact io p hp
theorem StT.unwiped {K : PySem.W.Frag} {F H : Hp} {σ : L2.St} {τ : Env} {vs : List V} {ds : List D} {own : List Nat} (s : StT K B F H (wipe σ own) (Bn.wipeE τ own) vs ds) (hio : ioFreeL B own) : StT K B F H σ (Bn.wipeE τ own) vs ds := by
  have io : IoOk B (wipe σ own) := by obtain ⟨_, _, _, _, _, io⟩ := s; exact io
  exact s.reset (wipe_length _ _).symm (fun j d h => (wipe_out (wipeE_in h)).symm) fun p hp => by rw [← wipe_out (hio p hp)]; exact io p hp
theorem wipeE_wipeE {τ : Env} {own : List Nat} : ∀ own2 : List Nat, (∀ j ∈ own2, j ∈ own) → Bn.wipeE (Bn.wipeE τ own) own2 = Bn.wipeE τ own
  | [], _ => rfl
  | v :: vs, h => by
    show (Bn.wipeE (Bn.wipeE τ own) vs).set v none = Bn.wipeE τ own
    rw [wipeE_wipeE vs fun j hj => h j (List.mem_cons_of_mem _ hj)]
    apply List.ext_getElem?
    intro j
    show ((Bn.wipeE τ own).set v none)[j]? = (Bn.wipeE τ own)[j]?
    rw [List.getElem?_set]
    split
    · rename_i e
      subst e
      split
      · cases e2 : (Bn.wipeE τ own)[v]? with
        | none => rw [List.getElem?_eq_none_iff] at e2; omega
        | some x =>
          cases x with
          | none => rfl
          | some d => exact absurd (h v List.mem_cons_self) (wipeE_in e2)
      · rename_i hl; rw [List.getElem?_eq_none (by omega)]
    · rfl
theorem lc_core' {J : It} {items : List D} {tv : List V} {td : List D} {g : D → Env → Option Env} {sl own : List Nat} {t : MT} {m : ME} {K : PySem.W.Frag} {σ : L2.St} {H F : Hp} {τ τ2 : Env} {acc2 : List D} {Q : VK} (ok : ItOk K B J items tv td) (hsl : ∀ j ∈ sl, j ∈ own) (hio : ioFreeL B own) (s : StT K B F H σ τ tv td)
    (e : lcL own g t m items [] (Bn.wipeE τ own) = .ok acc2 τ2) (k : ∀ v F H, StT K B F H σ τ2 (v :: tv) (.lst true acc2 :: td) → Q v H) : ∀ D, H D = none → ∃ W' : Nat → Nat → Hp → Prop, (∃ m, W' 0 m (upd H D (.lst []))) ∧ ∀ i n H, W' i n H →
      (J.stop i H ∧ Q (.ref D) H) ∨ (J.go i H ∧ ∃ Nx : Hp → Prop, (∀ H', Nx H' → ∃ m', m' < n ∧ W' (i + 1) m' H') ∧ ∀ x H', J.yld i H x H' → rdG K B sl g x (wipe σ own) H' fun σ2 H2 => wipe σ2 own = wipe σ own ∧ rdT K B W0 t σ2 H2 fun b H3 =>
        if b = true then rdE K B W0 m σ2 H3 fun y H4 => ∃ acc, H4 D = some (.lst acc) ∧ acc.length < sizeLine ∧ Nx (upd H4 D (.lst (acc ++ [y]))) else Nx H3) := by
  intro D hD
  have s0 : StT K B F (upd H D (.lst [])) σ τ (.ref D :: tv) (.lst true [] :: td) := s.newLst (us := []) (es := []) rfl hD
  have s1 := s0.wiped (own := own) hio
  -- the items are walked with the new list on top
  refine ⟨fun i n H => n = items.length - i ∧ i ≤ items.length ∧ ∃ F τ acc, StT K B F H (wipe σ own) (Bn.wipeE τ own) (.ref D :: tv) (.lst true acc :: td) ∧ lcL own g t m (items.drop i) acc (Bn.wipeE τ own) = .ok acc2 τ2, ⟨_, rfl, Nat.zero_le _, F, τ, [], s1, e⟩, ?_⟩
  rintro i n H ⟨rfl, hi, F, τ, acc, s, e⟩
  by_cases h : i < items.length
  · refine .inr ⟨ok.go i F H _ _ s.pop h, fun H' => ∃ F τ acc, StT K B F H' (wipe σ own) (Bn.wipeE τ own) (.ref D :: tv) (.lst true acc :: td) ∧ lcL own g t m (items.drop (i + 1)) acc (Bn.wipeE τ own) = .ok acc2 τ2,
      fun H' ⟨F', τ', acc', s', e'⟩ => ⟨items.length - (i + 1), by omega, rfl, h, F', τ', acc', s', e'⟩, fun x H' y => ?_⟩
    have ei : items[i]? = some items[i] := by simp [h]
    obtain ⟨F', s'⟩ := ok.y i _ F H _ _ x H' [.ref D] [.lst true acc] rfl ei s y
    rw [List.drop_eq_getElem_cons h] at e
    unfold lcL at e
    cases eg : g items[i] (Bn.wipeE τ own) with
    | none => rw [eg] at e; cases e
    | some τ1 =>
      rw [eg] at e
      refine ⟨F', _, _, _, _, s', τ1, eg, fun σ2 F2 H2 s2 l2 k2 => ⟨?_, F2, τ1, _, _, s2, ?_⟩⟩
      · rw [← wipe_wipe (σ := σ)]
        exact wipe_eq l2 fun j hj => k2 j fun z => hj (hsl j z)
      · have w2 : wipe σ2 own = wipe σ own := by
          rw [← wipe_wipe (σ := σ)]
          exact wipe_eq l2 fun j hj => k2 j fun z => hj (hsl j z)
        cases et : t τ1 with
        | bad => simp only [et, R.bind] at e; cases e
        | ex c τ3 => simp only [et, R.bind] at e; cases e
        | ok b τ3 =>
          simp only [et, R.bind] at e
          intro F3 H3 s3
          cases b with
          | false =>
            simp only [Bool.false_eq_true, if_false] at e
            rw [if_neg Bool.false_ne_true]
            have s4 := s3.wiped (own := own) hio
            rw [w2] at s4
            exact ⟨F3, τ3, acc, s4, e⟩
          | true =>
            simp only [if_true] at e
            rw [if_pos rfl]
            refine ⟨F3, τ3, _, _, s3, ?_⟩
            cases em : m τ3 with
            | bad => simp only [em] at e; cases e
            | ex c τ4 => simp only [em] at e; cases e
            | ok d τ4 =>
              simp only [em] at e
              intro v F4 H4 s4
              by_cases hacc : acc.length < 1000000
              · rw [if_pos hacc] at e
                obtain ⟨ff, q⟩ := s4.pop.top
                obtain ⟨a', vs', g', ea, hx, hg, hq⟩ := q
                cases ea
                refine ⟨vs', hx, ?_, F4, τ4, acc ++ [d], ?_, e⟩
                · rw [hg.length, sizeLine_eq]; omega
                · have s5 := (StT.swap (us := [v]) (es := [d]) s4 rfl).change (us := [v]) (ds := [d]) (ys := vs' ++ [v]) (es2 := acc ++ [d]) rfl hx fun g1 g2 r1 r2 => ⟨_, r1.append r2, fun b => Nat.le_refl _⟩
                  have s6 := s5.wiped (own := own) hio
                  rw [w2] at s6
                  exact s6
              · rw [if_neg hacc] at e; cases e
  · have ei : i = items.length := by omega
    subst ei
    rw [List.drop_length] at e
    cases (show R.ok acc (Bn.wipeE τ own) = R.ok acc2 τ2 from e)
    exact .inl ⟨ok.st F H _ _ s.pop, k _ F H (s.unwiped hio)⟩
end
end Bn

/-! Comprehensions; a def by its function; operators. -/
namespace Bn
open PySem PySem.Spec PyProof.Rows L2
section
variable {X : Cx} {B : Bx} {W : WX}
theorem StT.under {K : PySem.W.Frag} {F H : Hp} {σ : L2.St} {τ : Env} {vs us : List V} {ds es : List D} {v : V} {d : D} (s : StT K B F H σ τ (v :: (us ++ vs)) (d :: (es ++ ds))) (hl : us.length = es.length) : StT K B F H σ τ (v :: vs) (d :: ds) := by
  obtain ⟨f1, f2, A, ⟨v', r', g1, g2, e, b1, b2, q⟩, w, io⟩ := s
  cases e
  obtain ⟨g3, g4, c1, c2, q2⟩ := b2.split' hl
  exact ⟨f1, fun b => g1 b + g4 b, A, ⟨v, vs, g1, g4, rfl, b1, c2, fun _ => rfl⟩, w.less fun b => by show f1 b + (g1 b + g4 b) ≤ f1 b + f2 b; rw [q, q2]; omega, io⟩
theorem PTs.imp {e : List Expr} {t t' : TT} (h : PTs X e t) (k : ∀ σ H Q, t' σ H Q → t σ H Q) : PTs X e t' := ⟨fun p s σ H Q I q => h.run p s σ H Q I (k _ _ _ q)⟩
def tTrue : MT := fun τ => .ok true τ
theorem ts_nil : PTs X [] (rdT X.K B W tTrue) := PTs.imp pts_nil fun σ H Q ⟨F, τ, vs, ds, s, p⟩ => p F H s
theorem ts_one {c : Expr} {t : MT} (h : PT X c (rdT X.K B W t)) : PTs X [c] (rdT X.K B W t) := pts_one h
theorem impLc {own : List Nat} {it : MA} {g : D → Env → Option Env} {sl : List Nat} {t : MT} {m : ME} (hsl : ∀ j ∈ sl, j ∈ own) (hio : ioFreeL B own) (σ : L2.St) (H : Hp) (Q : VK) (h : rdE X.K B W (eLc own it g t m) σ H Q) : tLc (rdI X.K B W it) (rdG X.K B sl g) (rdT X.K B W0 t) (rdE X.K B W0 m) own σ H Q := by
  obtain ⟨F, τ, vs, ds, s, p⟩ := h
  refine ⟨F, τ, vs, ds, s, post_imp (post_bind p) (fun items τ1 q J us es F' H' hl s' ok => ?_) fun _ _ q => q⟩
  cases e : lcL own g t m items [] (Bn.wipeE τ1 own) with
  | ok acc τ2 =>
    simp only [e] at q
    exact lc_core' ok hsl hio s' e fun v F2 H2 s2 => q v F2 H2 (s2.under hl)
  | _ => simp only [e] at q; exact False.elim q
theorem e_lc {elt tg iter : Expr} {ifs : List Expr} {scope : Scope} {own : List (Str × Nat)} {pos : Pos} {it : MA} {g : D → Env → Option Env} {sl : List Nat} {t : MT} {m : ME} (c : XOk X W) (hN : X.N.Nodup) (hi : PI X tg iter (rdI X.K B W it)) (ok : BlkOk X.N X.env.scope scope own)
    (hg : ∀ (s : Shared) (H : Hp) (C : Addr) (cl : List (Str × Addr)) (fp : List Addr), PG (X.blk s H scope (compEnvC scope cl C X.env) fp) tg (rdG X.K B sl g)) (ht : ∀ (s : Shared) (H : Hp) (C : Addr) (cl : List (Str × Addr)) (fp : List Addr), PTs (X.blk s H scope (compEnvC scope cl C X.env) fp) ifs (rdT X.K B W0 t))
    (he : ∀ (s : Shared) (H : Hp) (C : Addr) (cl : List (Str × Addr)) (fp : List Addr), XOk (X.blk s H scope (compEnvC scope cl C X.env) fp) W0 → PE (X.blk s H scope (compEnvC scope cl C X.env) fp) elt (rdE X.K B W0 m))
    (hsl : ∀ j ∈ sl, j ∈ own.map (·.2) := by decide) (hio : ioFreeL B (own.map (·.2)) := by first | (intro p hp; cases hp; done) | (intro p hp; simp only [List.mem_cons, List.not_mem_nil, or_false] at hp; rcases hp with rfl | rfl <;> simp) | (intro p hp; simp only [List.mem_cons, List.not_mem_nil, or_false] at hp; subst hp; simp)) (hs : ∀ x, foldedSetIterable iter X.env x = pure x := by intro _; rfl) :
    PE X (.ListComp elt [⟨tg, iter, ifs, 0⟩] scope pos) (rdE X.K B W (eLc (own.map (·.2)) it g t m)) :=
  PE.imp (pe_lc c.calm hN hi ok hg ht (fun s H C cl fp => he s H C cl fp ⟨takes0, PassesOwn.never, c.calm⟩) hs) (impLc hsl hio)
theorem s_setLc {i : Nat} {y : Str} {py : Pos} {elt tg iter : Expr} {ifs : List Expr} {scope : Scope} {own : List (Str × Nat)} {pos spos : Pos} {it : MA} {g : D → Env → Option Env} {sl : List Nat} {t : MT} {m : ME} (c : XOk X W) (hN : X.N.Nodup) (hy : X.N[i]? = some y) (hyl : X.env.scope.names.lookup y = some .local)
    (hsw : swapsWith (.ListComp elt [⟨tg, iter, ifs, 0⟩] scope pos) (some (.Name y py)) spos.line X.env = pure true) (hi : PI X tg iter (rdI X.K B W it)) (ok : BlkOk X.N X.env.scope scope own)
    (hg : ∀ (s : Shared) (H : Hp) (C : Addr) (cl : List (Str × Addr)) (fp : List Addr), PG (X.blk s H scope (compEnvC scope cl C X.env) fp) tg (rdG X.K B sl g)) (ht : ∀ (s : Shared) (H : Hp) (C : Addr) (cl : List (Str × Addr)) (fp : List Addr), PTs (X.blk s H scope (compEnvC scope cl C X.env) fp) ifs (rdT X.K B W0 t))
    (he : ∀ (s : Shared) (H : Hp) (C : Addr) (cl : List (Str × Addr)) (fp : List Addr), XOk (X.blk s H scope (compEnvC scope cl C X.env) fp) W0 → PE (X.blk s H scope (compEnvC scope cl C X.env) fp) elt (rdE X.K B W0 m))
    (hsl : ∀ j ∈ sl, j ∈ own.map (·.2) := by decide) (hio : ioFreeL B (own.map (·.2)) := by first | (intro p hp; cases hp; done) | (intro p hp; simp only [List.mem_cons, List.not_mem_nil, or_false] at hp; rcases hp with rfl | rfl <;> simp) | (intro p hp; simp only [List.mem_cons, List.not_mem_nil, or_false] at hp; subst hp; simp)) (hio2 : ioFree B i := by first | (intro p hp; cases hp; done) | (intro p hp; simp only [List.mem_cons, List.not_mem_nil, or_false] at hp; rcases hp with rfl | rfl <;> simp) | (intro p hp; simp only [List.mem_cons, List.not_mem_nil, or_false] at hp; subst hp; simp)) (hs : ∀ x, foldedSetIterable iter X.env x = pure x := by intro _; rfl) :
    PS X (.Assign [.Name y py] (.ListComp elt [⟨tg, iter, ifs, 0⟩] scope pos) spos) (rdS X.K B W (sAsg (eLc (own.map (·.2)) it g t m) (gN i))) :=
  PS.imp (ps_setLc c.calm hN hy hyl hsw hi ok hg ht (fun s H C cl fp => he s H C cl fp ⟨takes0, PassesOwn.never, c.calm⟩) hs) fun D σ H ⟨F, τ, vs, ds, s, p⟩ =>
    impLc hsl hio σ H _ ⟨F, τ, vs, ds, s, post_imp (post_s (σ := σ) p) (fun d τ1 q v F1 H1 s1 => q _ F1 H1 (s1.put' hio2)) fun _ _ q => q⟩
end

/-! ### a def -/
def callF (n N : Nat) (b : MS) : List D → CR := fun ds => if ds.length = n then (match b (ds.map some ++ List.replicate (N - n) none) with
  | .nx _ => .ok .non
  | .rt d _ => .ok d
  | .ex c _ => .ex c
  | _ => .bad) else .bad
theorem sl_start {K : PySem.W.Frag} {ca : Str → Addr} {F H : Hp} {k : Nat} : ∀ {ds : List D} {vs : List V}, RepL K ca F ds vs → Sl K ca F H (ds.map some ++ List.replicate k none) (vs.map some ++ List.replicate k none) (fun _ => 0)
  | [], vs, h => by
    cases (show vs = [] from h)
    show Sl K ca F H (List.replicate k none) (List.replicate k none) _
    induction k with
    | zero => exact ⟨rfl, fun _ => rfl⟩
    | succ k ih => exact ⟨none, _, rfl, ih⟩
  | d :: ds, _, ⟨v, r, h1, h2, h3⟩ => by
    subst h1
    exact ⟨v, _, _, _, rfl, h2.o, sl_start h3, fun _ => rfl⟩
section
variable {P : Program} {w : World} {K : PySem.W.Frag} {mg : Str → Option Value} {base : Heap} {ca : Str → Addr}
theorem fn_ok {x qual : Str} {st : Stmt} {f : Addr} {fd : FuncData} {N ps : List Str} {k : Nat} {b : MS} (F : Fun K x qual st f fd) (S : FnScope N ps (defScope st))
    (hb : ∀ (cdv : Value) (A : Around) (outer : List PySem.Env) (s : Shared) (H : Hp) (E : XK) (F0 R : Hp), Room k (A.deeper (envOfC qual (defScope st) s.heap.objs.size f cdv)) →
      XOk (cxOf (L2.CX P w) P w K mg base N qual (defScope st) f cdv A outer s H E) (fun cls d _ H => E cls d H) →
      PSs (cxOf (L2.CX P w) P w K mg base N qual (defScope st) f cdv A outer s H E) (defBody st) (rdS K ⟨ca, F0, R, []⟩ (fun cls d _ H => E cls d H) b)) :
    FnOk P w K mg base (L2.CX P w) (k + 1) f fd ps (spP K ca (callF ps.length N.length b)) := by
  refine F.okX S (fun vs H Q E h => ?_) (fun cdv A outer s H vs Q E hr h => ?_)
  · obtain ⟨F0, ds, _, rl, h⟩ := h
    rw [rl.length]
    by_cases e : ds.length = ps.length
    · exact e
    · unfold callF at h
      rw [if_neg e] at h
      exact h.elim
  · obtain ⟨F0, ds, sm, rl, h⟩ := h
    refine ⟨_, hb cdv A outer s H E F0 H hr ⟨takes_of rfl rfl rfl rfl, passes_of rfl, rfl⟩, ?_⟩
    have hl : ds.length = ps.length := by
      by_cases e : ds.length = ps.length
      · exact e
      · unfold callF at h
        rw [if_neg e] at h
        exact h.elim
    unfold callF at h
    rw [if_pos hl] at h
    have st0 : StT K ⟨ca, F0, H, []⟩ F0 H (L2.start N vs) (ds.map some ++ List.replicate (N.length - ps.length) none) [] [] := by
      refine ⟨fun _ => 0, fun _ => 0, ?_, ⟨rfl, fun _ => rfl⟩, ⟨fun _ => Nat.zero_le _, fun a q => absurd q (Nat.lt_irrefl _), fun a q => absurd q (Nat.lt_irrefl _), sm, Same.refl _, Same.refl _, fun a q => .inl q⟩, fun p hp => by cases hp⟩
      unfold L2.start
      rw [rl.length, hl]
      exact sl_start rl
    refine ⟨F0, _, [], [], st0, ?_⟩
    cases e : b (ds.map some ++ List.replicate (N.length - ps.length) none) with
    | nx τ =>
      rw [e] at h
      intro σ' F' H' s'
      obtain ⟨f1, f2, _, _, w', _⟩ := s'
      exact h .non F' H' (fun _ => 0) w'.s0 w'.sF w'.sR (Rep.o (d := .non) rfl) (fun _ => Nat.zero_le _) (fun a q => absurd q (Nat.lt_irrefl _)) w'.fr
    | rt d τ =>
      rw [e] at h
      intro v σ' F' H' s'
      obtain ⟨f1, f2, _, ⟨_, _, g1, g2, ee, hv, _, q⟩, w', _⟩ := s'
      cases ee
      have le : ∀ a, g1 a ≤ f1 a + f2 a := fun a => by rw [q]; omega
      exact h v F' H' g1 w'.s0 w'.sF w'.sR hv (fun a => Nat.le_trans (le a) (w'.nd a)) (fun a z => ⟨w'.dF a (Nat.lt_of_lt_of_le z (le a)), w'.dR a (Nat.lt_of_lt_of_le z (le a))⟩) w'.fr
    | ex c τ =>
      rw [e] at h
      intro σ' F' H' s'
      obtain ⟨f1, f2, _, _, w', _⟩ := s'
      exact h H' w'.sR
    | bk τ => rw [e] at h; exact h.elim
    | ct τ => rw [e] at h; exact h.elim
    | bad => rw [e] at h; exact h.elim
theorem fo_of {x qual : Str} {st : Stmt} {f : Addr} {fd : FuncData} {ps : List Str} {k : Nat} {g : List D → CR} (F : Fun K x qual st f fd) (hm : mg x = some (.ref f)) (hb : Binds K fd ps []) (h : FnOk P w K mg base (L2.CX P w) k f fd ps (spP K ca g)) : Fo P w K mg base ca k x g := ⟨f, fd, ps, hm, F.kp, hb, h⟩
end
end Bn

/-! Operators and built-in calls by trees. -/
namespace Bn
open PySem PySem.Spec PyProof.Rows L2
section
variable {K : PySem.W.Frag}
def gI (k : Int → Int → D) : D → D → Option D
  | .int i, .int j => some (k i j)
  | _, _ => none
def gIC (C : Int → Int → Prop) [∀ i j, Decidable (C i j)] (k : Int → Int → D) : D → D → Option D
  | .int i, .int j => if C i j then some (k i j) else none
  | _, _ => none
theorem opS_I0 {f : Int → Int → V} {k : Int → Int → D} (h : ∀ ca F i j, Rep K ca F (k i j) (f i j)) : OpS K (rI0 f) (gI k) := by
  intro ca F H x y a b d f1 f2 Q sm hx hy e q
  cases a with
  | int i =>
    cases b with
    | int j =>
      cases (show some (k i j) = some d from e)
      exact ⟨i, j, hx.1, hy.1, q _ _ (h ca F i j).o⟩
    | _ => cases e
  | _ => cases e
theorem opS_IC {C : Int → Int → Prop} [∀ i j, Decidable (C i j)] {f : Int → Int → V} {k : Int → Int → D} (h : ∀ ca F i j, Rep K ca F (k i j) (f i j)) : OpS K (rI C f) (gIC C k) := by
  intro ca F H x y a b d f1 f2 Q sm hx hy e q
  cases a with
  | int i =>
    cases b with
    | int j =>
      by_cases c : C i j
      · have e' : (if C i j then some (k i j) else none) = some d := e
        rw [if_pos c] at e'
        cases e'
        exact ⟨i, j, hx.1, hy.1, c, q _ _ (h ca F i j).o⟩
      · have e' : (if C i j then some (k i j) else none) = some d := e
        rw [if_neg c] at e'; cases e'
    | _ => cases e
  | _ => cases e
def gAdd : D → D → Option D := gI fun i j => .int (i + j)
def gSub : D → D → Option D := gI fun i j => .int (i - j)
instance {i j : Int} : Decidable (CMulW i j) := by unfold CMulW; infer_instance
instance {i j : Int} : Decidable (CDivW i j) := by unfold CDivW; infer_instance
instance {i j : Int} : Decidable (CPow i j) := by unfold CPow; infer_instance
def gMul : D → D → Option D := gIC CMulW fun i j => .int (i * j)
def gDiv : D → D → Option D := gIC CDivW fun i j => .int (i / j)
def gMod : D → D → Option D := gIC (fun _ j => 0 < j) fun i j => .int (i % j)
def gPow : D → D → Option D := gIC CPow fun i j => .int (i ^ j.toNat)
def gLt : D → D → Option D := gI fun i j => .bl (decide (i < j))
def gLe : D → D → Option D := gI fun i j => .bl (decide (i ≤ j))
def gGt : D → D → Option D := gI fun i j => .bl (decide (j < i))
def gGe : D → D → Option D := gI fun i j => .bl (decide (j ≤ i))
theorem sAdd : OpS K (rI0 fun i j => .int (i + j)) gAdd := opS_I0 fun _ _ _ _ => rfl
theorem sSub : OpS K (rI0 fun i j => .int (i - j)) gSub := opS_I0 fun _ _ _ _ => rfl
theorem sMul : OpS K (rI CMulW fun i j => .int (i * j)) gMul := opS_IC fun _ _ _ _ => rfl
theorem sDiv : OpS K (rI CDivW fun i j => .int (i / j)) gDiv := opS_IC fun _ _ _ _ => rfl
theorem sMod : OpS K (rI (fun _ j => 0 < j) fun i j => .int (i % j)) gMod := opS_IC fun _ _ _ _ => rfl
theorem sPow : OpS K (rI CPow fun i j => .int (i ^ j.toNat)) gPow := opS_IC fun _ _ _ _ => rfl
theorem sLt : OpS K (rI0 fun i j => .bl (decide (i < j))) gLt := opS_I0 fun _ _ _ _ => rfl
theorem sLe : OpS K (rI0 fun i j => .bl (decide (i ≤ j))) gLe := opS_I0 fun _ _ _ _ => rfl
theorem sGt : OpS K (rI0 fun i j => .bl (decide (j < i))) gGt := opS_I0 fun _ _ _ _ => rfl
theorem sGe : OpS K (rI0 fun i j => .bl (decide (j ≤ i))) gGe := opS_I0 fun _ _ _ _ => rfl
def gNeg : D → Option D
  | .int i => some (.int (-i))
  | _ => none
theorem sNeg : UnS K (rU fun i => .int (-i)) gNeg := by
  intro ca F H x a d f1 Q sm hx e q
  cases a with
  | int i =>
    cases (show some (D.int (-i)) = some d from e)
    exact ⟨i, hx.1, q (.int (-i)) _ (Rep.o (d := .int (-i)) rfl)⟩
  | _ => cases e
def gAddS : D → D → Option D
  | .str i, .str j => if i.length + j.length ≤ 1000000 then some (.str (i ++ j)) else none
  | _, _ => none
theorem sAddS : OpS K (fun x y H Q => ∃ i j, x = .str i ∧ y = .str j ∧ i.length + j.length ≤ sizeLine ∧ Q (.str (i ++ j)) H) gAddS := by
  intro ca F H x y a b d f1 f2 Q sm hx hy e q
  cases a with
  | str i =>
    cases b with
    | str j =>
      by_cases c : i.length + j.length ≤ 1000000
      · have e' : (if i.length + j.length ≤ 1000000 then some (D.str (i ++ j)) else none) = some d := e
        rw [if_pos c] at e'
        cases e'
        exact ⟨i, j, hx.1, hy.1, le_sizeLine c, q (.str (i ++ j)) _ (Rep.o (d := .str (i ++ j)) rfl)⟩
      · have e' : (if i.length + j.length ≤ 1000000 then some (D.str (i ++ j)) else none) = some d := e
        rw [if_neg c] at e'; cases e'
    | _ => cases e
  | _ => cases e

/-! ### == of data -/
mutual
def toP : D → PyData
  | .bl b => .bool b
  | .int i => .int i
  | .str s => .str s
  | .tup xs => .tuple (toPs xs)
  | .lst _ xs => .list (toPs xs)
  | .cst xs => .list (toPs xs)
  | .non => .none
  | .ty _ => .none
  | .obj _ _ _ _ => .none
def toPs : List D → List PyData
  | [] => []
  | x :: xs => toP x :: toPs xs
end
mutual
def hasP : D → Bool
  | .tup xs => hasPs xs
  | .lst _ xs => hasPs xs
  | .cst xs => hasPs xs
  | .ty _ => false
  | .obj _ _ _ _ => false
  | .bl _ => true | .int _ => true | .str _ => true | .non => true
def hasPs : List D → Bool
  | [] => true
  | x :: xs => hasP x && hasPs xs
end
section
variable {ca : Str → Addr} {F H : Hp}
mutual
theorem Rep.dp (sm : Same F H) : ∀ (d : D) (v : V), hasP d = true → Rep K ca F d v → Dp K H v (toP d)
  | .non, v, _, h => by cases (show v = .non from h); exact .non
  | .bl b, v, _, h => by cases (show v = .bl b from h); exact .bl b
  | .int b, v, _, h => by cases (show v = .int b from h); exact .int b
  | .str b, v, _, h => by cases (show v = .str b from h); exact .str b
  | .tup ds, v, z, h => by
    obtain ⟨a, vs, rfl, h1, h2⟩ := h
    exact .tup (sqT_same sm h1) (RepL.dp sm ds vs z h2)
  | .lst true _, _, _, h => h.elim
  | .lst false ds, v, z, h => by
    obtain ⟨a, vs, rfl, h1, h2⟩ := h
    exact .lst (sqOf (sm _ _ h1)) (RepL.dp sm ds vs z h2)
  | .cst ds, v, z, h => by
    obtain ⟨a, vs, rfl, h1, h2⟩ := h
    exact .lst (sm.seq h1) (RepL.dp sm ds vs z h2)
theorem RepL.dp (sm : Same F H) : ∀ (ds : List D) (vs : List V), hasPs ds = true → RepL K ca F ds vs → DpAll K H vs (toPs ds)
  | [], vs, _, h => by cases (show vs = [] from h); exact .nil
  | d :: ds, _, z, ⟨v, r, h1, h2, h3⟩ => by
    subst h1
    have z' : (hasP d && hasPs ds) = true := z
    rw [Bool.and_eq_true] at z'
    exact .cons (Rep.dp sm d v z'.1 h2) (RepL.dp sm ds r z'.2 h3)
end
mutual
theorem RepO.dp (sm : Same F H) : ∀ (d : D) (v : V) (f : Ct), hasP d = true → RepO K ca F H d v f → Dp K H v (toP d)
  | .lst true ds, v, f, z, h => by
    obtain ⟨a, vs, g, rfl, h1, h2, _⟩ := h
    exact .lst (sqOf h1) (RepOs.dp sm ds vs g z h2)
  | .lst false ds, v, f, z, h => Rep.dp sm _ _ z h.1
  | .non, v, f, z, h => Rep.dp sm _ _ z h.1
  | .bl _, v, f, z, h => Rep.dp sm _ _ z h.1
  | .int _, v, f, z, h => Rep.dp sm _ _ z h.1
  | .str _, v, f, z, h => Rep.dp sm _ _ z h.1
  | .tup _, v, f, z, h => Rep.dp sm _ _ z h.1
  | .cst _, v, f, z, h => Rep.dp sm _ _ z h.1
theorem RepOs.dp (sm : Same F H) : ∀ (ds : List D) (vs : List V) (f : Ct), hasPs ds = true → RepOs K ca F H ds vs f → DpAll K H vs (toPs ds)
  | [], vs, _, _, h => by cases (show vs = [] from h.1); exact .nil
  | d :: ds, _, f, z, ⟨v, r, f1, f2, h1, h2, h3, _⟩ => by
    subst h1
    have z' : (hasP d && hasPs ds) = true := z
    rw [Bool.and_eq_true] at z'
    exact .cons (RepO.dp sm d v f1 z'.1 h2) (RepOs.dp sm ds r f2 z'.2 h3)
end
end
def okP (d : D) : Bool := hasP d && SeqAt.shaped (toP d)
def eqP (a b : D) : Bool := PyData.eqv (toP a) (toP b)
def gEq (a b : D) : Option D := if okP a = true ∧ okP b = true then some (.bl (eqP a b)) else none
def gNe (a b : D) : Option D := if okP a = true ∧ okP b = true then some (.bl (!eqP a b)) else none
theorem sEq : OpS K (rEqD K) gEq := by
  intro ca F H x y a b d f1 f2 Q sm hx hy e q
  unfold gEq at e
  by_cases c : okP a = true ∧ okP b = true
  · rw [if_pos c] at e
    cases e
    have c1 := c.1
    have c2 := c.2
    unfold okP at c1 c2
    rw [Bool.and_eq_true] at c1 c2
    exact ⟨_, _, RepO.dp sm a x f1 c1.1 hx, RepO.dp sm b y f2 c2.1 hy, c1.2, c2.2, q (.bl _) _ (Rep.o (d := .bl _) rfl)⟩
  · rw [if_neg c] at e; cases e
theorem sNe : OpS K (rNeD K) gNe := by
  intro ca F H x y a b d f1 f2 Q sm hx hy e q
  unfold gNe at e
  by_cases c : okP a = true ∧ okP b = true
  · rw [if_pos c] at e
    cases e
    have c1 := c.1
    have c2 := c.2
    unfold okP at c1 c2
    rw [Bool.and_eq_true] at c1 c2
    exact ⟨_, _, RepO.dp sm a x f1 c1.1 hx, RepO.dp sm b y f2 c2.1 hy, c1.2, c2.2, q (.bl _) _ (Rep.o (d := .bl _) rfl)⟩
  · rw [if_neg c] at e; cases e
def isNonD : D → Bool
  | .non => true
  | _ => false
def gIsN (a b : D) : Option D := match b with
  | .non => some (.bl (isNonD a))
  | _ => none
def gNotN (a b : D) : Option D := match b with
  | .non => some (.bl (!isNonD a))
  | _ => none
theorem isN_of {ca : Str → Addr} {F H : Hp} {a : D} {x : V} {f : Ct} (h : RepO K ca F H a x f) : decide (x = .non) = isNonD a := by
  cases a with
  | non => cases (show x = .non from h.1); rfl
  | bl b => cases (show x = .bl b from h.1); rfl
  | int b => cases (show x = .int b from h.1); rfl
  | str b => cases (show x = .str b from h.1); rfl
  | ty b => cases (show x = .ty b from h.1); rfl
  | tup ds => obtain ⟨⟨a, vs, rfl, _⟩, _⟩ := h; rfl
  | cst ds => obtain ⟨⟨a, vs, rfl, _⟩, _⟩ := h; rfl
  | lst m ds => cases m with
    | true => obtain ⟨a, vs, g, rfl, _⟩ := h; rfl
    | false => obtain ⟨⟨a, vs, rfl, _⟩, _⟩ := h; rfl
  | obj m c ns ds => cases m with
    | true => obtain ⟨a, dx, fs, vs, g, rfl, _⟩ := h; rfl
    | false => obtain ⟨⟨a, dx, fs, vs, rfl, _⟩, _⟩ := h; rfl
theorem sIsN : OpS K (fun x y H Q => y = .non ∧ Q (.bl (decide (x = .non))) H) gIsN := by
  intro ca F H x y a b d f1 f2 Q sm hx hy e q
  cases b with
  | non =>
    cases (show some (D.bl (isNonD a)) = some d from e)
    refine ⟨hy.1, ?_⟩
    rw [isN_of hx]
    exact q (.bl _) _ (Rep.o (d := .bl _) rfl)
  | _ => cases e
theorem sNotN : OpS K (fun x y H Q => y = .non ∧ Q (.bl (!decide (x = .non))) H) gNotN := by
  intro ca F H x y a b d f1 f2 Q sm hx hy e q
  cases b with
  | non =>
    cases (show some (D.bl (!isNonD a)) = some d from e)
    refine ⟨hy.1, ?_⟩
    rw [isN_of hx]
    exact q (.bl _) _ (Rep.o (d := .bl _) rfl)
  | _ => cases e

/-! ### subscripts, len -/
def itemsD : D → Option (List D)
  | .lst _ xs => some xs
  | .cst xs => some xs
  | .tup xs => some xs
  | _ => none
def gIx (a b : D) : Option D := match b with
  | .int i => (match a with
    | .str z => if z.length ≤ 1000000 then (atI z.cps.toList i).map fun c => .str ⟨#[c]⟩ else none
    | .lst _ xs => atI xs i
    | .cst xs => atI xs i
    | .tup xs => atI xs i
    | _ => none)
  | _ => none
theorem atI_get {α β : Type} {xs : List α} {ys : List β} {i : Int} {y : β} (hl : xs.length = ys.length) (h : atI ys i = some y) : ∃ (j : Nat) (x : α), ys[j]? = some y ∧ xs[j]? = some x ∧ atI xs i = some x := by
  unfold atI at h ⊢
  obtain ⟨j, e, h⟩ := bind_some h
  have hj : j < ys.length := (List.getElem?_eq_some_iff.mp h).1
  obtain ⟨x, hx⟩ : ∃ x, xs[j]? = some x := ⟨xs[j]'(by omega), by simp [hl, hj]⟩
  refine ⟨j, x, h, hx, ?_⟩
  rw [hl, e]
  exact hx
theorem seq_of {ca : Str → Addr} {F H : Hp} {a : D} {x : V} {f : Ct} {xs : List D} (sm : Same F H) (h : RepO K ca F H a x f) (e : itemsD a = some xs) : ∃ p vs g, x = .ref p ∧ (SqL K H p vs ∨ SqT K H p vs) ∧ RepOs K ca F H xs vs g := by
  cases a with
  | tup ds =>
    cases (show some ds = some xs from e)
    obtain ⟨⟨a, vs, rfl, h1, h2⟩, _⟩ := h
    exact ⟨a, vs, _, rfl, .inr (sqT_same sm h1), h2.os⟩
  | cst ds =>
    cases (show some ds = some xs from e)
    obtain ⟨⟨a, vs, rfl, h1, h2⟩, _⟩ := h
    exact ⟨a, vs, _, rfl, .inl (sm.seq h1), h2.os⟩
  | lst m ds =>
    cases (show some ds = some xs from e)
    cases m with
    | true =>
      obtain ⟨a, vs, g, rfl, h1, h2, _⟩ := h
      exact ⟨a, vs, g, rfl, .inl (sqOf h1), h2⟩
    | false =>
      obtain ⟨⟨a, vs, rfl, h1, h2⟩, _⟩ := h
      exact ⟨a, vs, _, rfl, .inl (sqOf (sm _ _ h1)), h2.os⟩
  | _ => cases e
theorem gIx_seq {a d : D} {i : Int} (e : gIx a (.int i) = some d) : (∃ xs, itemsD a = some xs ∧ atI xs i = some d) ∨ ∃ z c, a = .str z ∧ z.length ≤ 1000000 ∧ atI z.cps.toList i = some c ∧ d = .str ⟨#[c]⟩ := by
  cases a with
  | tup xs => exact .inl ⟨xs, rfl, e⟩
  | cst xs => exact .inl ⟨xs, rfl, e⟩
  | lst m xs => exact .inl ⟨xs, rfl, e⟩
  | str z =>
    have e' : (if z.length ≤ 1000000 then (atI z.cps.toList i).map fun c => D.str ⟨#[c]⟩ else none) = some d := e
    by_cases c : z.length ≤ 1000000
    · rw [if_pos c] at e'
      cases e2 : atI z.cps.toList i with
      | none => rw [e2] at e'; cases e'
      | some c' =>
        rw [e2] at e'
        exact .inr ⟨z, c', rfl, c, e2, (Option.some.inj e').symm⟩
    · rw [if_neg c] at e'; cases e'
  | _ => cases e
theorem sIx : OpS K (rIx K) gIx := by
  intro ca F H x y a b d f1 f2 Q sm hx hy e q
  cases b with
  | int i =>
    rcases gIx_seq e with ⟨xs, e1, e2⟩ | ⟨z, c, rfl, hz, e2, rfl⟩
    · obtain ⟨p, vs, g, rfl, h1, h2⟩ := seq_of sm hx e1
      obtain ⟨j, v, g1, g2, g3⟩ := atI_get h2.length e2
      obtain ⟨v', g', k1, k2⟩ := h2.get g1
      rw [g2] at k1; cases k1
      rcases h1 with h1 | h1
      · exact .inl ⟨p, vs, i, v, rfl, hy.1, h1, g3, q v _ k2⟩
      · exact .inr (.inl ⟨p, vs, i, v, rfl, hy.1, h1, g3, q v _ k2⟩)
    · exact .inr (.inr ⟨z, i, c, hx.1, hy.1, le_sizeLine hz, e2, q (.str ⟨#[c]⟩) _ (Rep.o (d := .str _) rfl)⟩)
  | _ => cases e
def gLen : List D → Option D
  | [.str z] => if z.length ≤ 1000000 then some (.int (z.length : Nat)) else none
  | [a] => (itemsD a).map fun xs => .int (xs.length : Nat)
  | _ => none
theorem repOs1 {ca : Str → Addr} {F H : Hp} {a : D} {xs : List V} {f : Ct} (h : RepOs K ca F H [a] xs f) : ∃ x g, xs = [x] ∧ RepO K ca F H a x g := by
  obtain ⟨x, r, f1, f2, rfl, h1, ⟨rfl, _⟩, _⟩ := h
  exact ⟨x, f1, rfl, h1⟩
theorem repOs2 {ca : Str → Addr} {F H : Hp} {a b : D} {xs : List V} {f : Ct} (h : RepOs K ca F H [a, b] xs f) : ∃ x y g g', xs = [x, y] ∧ RepO K ca F H a x g ∧ RepO K ca F H b y g' := by
  obtain ⟨x, r, f1, f2, rfl, h1, h2, _⟩ := h
  obtain ⟨y, g', rfl, h3⟩ := repOs1 h2
  exact ⟨x, y, f1, g', rfl, h1, h3⟩
theorem sLen : CallS K (fun xs H Q => ∃ x n, xs = [x] ∧ LenV K x H n ∧ Q (.int n) H) gLen := by
  intro ca F H xs as d f1 Q sm hx e q
  unfold gLen at e
  split at e
  · rename_i z
    obtain ⟨x, g, rfl, h⟩ := repOs1 hx
    cases (show x = .str z from h.1)
    by_cases c : z.length ≤ 1000000
    · rw [if_pos c] at e; cases e
      exact ⟨_, z.length, rfl, ⟨le_sizeLine c, rfl⟩, q (.int _) _ (Rep.o (d := .int _) rfl)⟩
    · rw [if_neg c] at e; cases e
  · rename_i a _
    obtain ⟨x, g, rfl, h⟩ := repOs1 hx
    cases ei : itemsD a with
    | none => rw [ei] at e; cases e
    | some ys =>
      rw [ei] at e
      cases (show some (D.int (ys.length : Nat)) = some d from e)
      obtain ⟨p, vs, g, rfl, h1, h2⟩ := seq_of sm h ei
      refine ⟨_, ys.length, rfl, ?_, q (.int _) _ (Rep.o (d := .int _) rfl)⟩
      rcases h1 with h1 | h1
      · exact .inl ⟨vs, h1, h2.length.symm⟩
      · exact .inr ⟨vs, h1, h2.length.symm⟩
  · cases e

/-! ### abs, min, max -/
def gAbs : List D → Option D
  | [.int i] => some (.int (if i < 0 then -i else i))
  | _ => none
def gMin2 : List D → Option D
  | [.int i, .int j] => some (.int (if j < i then j else i))
  | _ => none
def gMax2 : List D → Option D
  | [.int i, .int j] => some (.int (if j > i then j else i))
  | _ => none
theorem sAbs : CallS K (fun xs H Q => ∃ i, xs = [.int i] ∧ Q (.int (if i < 0 then -i else i)) H) gAbs := by
  intro ca F H xs as d f1 Q sm hx e q
  unfold gAbs at e
  split at e
  · rename_i i
    cases e
    obtain ⟨x, g, rfl, h⟩ := repOs1 hx
    cases (show x = .int i from h.1)
    exact ⟨i, rfl, q (.int _) _ (Rep.o (d := .int _) rfl)⟩
  · cases e

theorem sMin2 : CallS K (fun xs H Q => ∃ i j, xs = [.int i, .int j] ∧ Q (.int (if j < i then j else i)) H) gMin2 := by
  intro ca F H xs as d f1 Q sm hx e q
  unfold gMin2 at e
  split at e
  · rename_i i j
    cases e
    obtain ⟨x, y, g, g', rfl, h, h'⟩ := repOs2 hx
    cases (show x = .int i from h.1)
    cases (show y = .int j from h'.1)
    exact ⟨i, j, rfl, q (.int _) _ (Rep.o (d := .int _) rfl)⟩
  · cases e

theorem sMax2 : CallS K (fun xs H Q => ∃ i j, xs = [.int i, .int j] ∧ Q (.int (if j > i then j else i)) H) gMax2 := by
  intro ca F H xs as d f1 Q sm hx e q
  unfold gMax2 at e
  split at e
  · rename_i i j
    cases e
    obtain ⟨x, y, g, g', rfl, h, h'⟩ := repOs2 hx
    cases (show x = .int i from h.1)
    cases (show y = .int j from h'.1)
    exact ⟨i, j, rfl, q (.int _) _ (Rep.o (d := .int _) rfl)⟩
  · cases e

/-- the ints of a list of ints -/
def intsOf : List D → Option (List Int)
  | [] => some []
  | .int i :: r => (intsOf r).map (i :: ·)
  | _ => none
theorem ints_map : ∀ ns : List Int, intsOf (ns.map D.int) = some ns
  | [] => rfl
  | i :: r => by show (intsOf (r.map D.int)).map (i :: ·) = _; rw [ints_map r]; rfl
theorem repOs_ints {ca : Str → Addr} {F H : Hp} : ∀ {ds : List D} {vs : List V} {f : Ct} {ns : List Int}, RepOs K ca F H ds vs f → intsOf ds = some ns → vs = ns.map V.int
  | [], vs, f, ns, h, e => by
    cases (show some [] = some ns from e)
    exact h.1
  | d :: r, vs, f, ns, h, e => by
    obtain ⟨v, r', f1, f2, h1, h2, h3, _⟩ := h
    cases d with
    | int i =>
      have e' : (intsOf r).map (i :: ·) = some ns := e
      cases e2 : intsOf r with
      | none => rw [e2] at e'; cases e'
      | some ms =>
        rw [e2] at e'
        cases (show some (i :: ms) = some ns from e')
        rw [h1, repOs_ints h3 e2, (show v = .int i from h2.1)]
        rfl
    | _ => cases e
def minI : Int → List Int → Int
  | m, [] => m
  | m, x :: xs => minI (if x < m then x else m) xs
def maxI : Int → List Int → Int
  | m, [] => m
  | m, x :: xs => maxI (if m < x then x else m) xs
theorem minI_le : ∀ (m : Int) (xs : List Int), minI m xs ≤ m ∧ (∀ x ∈ xs, minI m xs ≤ x) ∧ (minI m xs = m ∨ minI m xs ∈ xs)
  | m, [] => ⟨Int.le_refl _, by simp, .inl rfl⟩
  | m, x :: xs => by
    obtain ⟨h1, h2, h3⟩ := minI_le (if x < m then x else m) xs
    show minI (if x < m then x else m) xs ≤ m ∧ (∀ y ∈ x :: xs, minI (if x < m then x else m) xs ≤ y) ∧ (minI (if x < m then x else m) xs = m ∨ minI (if x < m then x else m) xs ∈ x :: xs)
    have a0 : (if x < m then x else m) ≤ m ∧ (if x < m then x else m) ≤ x := by split <;> omega
    have a : minI (if x < m then x else m) xs ≤ m ∧ minI (if x < m then x else m) xs ≤ x := ⟨Int.le_trans h1 a0.1, Int.le_trans h1 a0.2⟩
    refine ⟨a.1, fun y hy => ?_, ?_⟩
    · rcases List.mem_cons.mp hy with rfl | hy
      · exact a.2
      · exact h2 y hy
    · rcases h3 with h3 | h3
      · rw [h3]
        split
        · exact .inr List.mem_cons_self
        · exact .inl rfl
      · exact .inr (List.mem_cons_of_mem _ h3)
theorem maxI_le : ∀ (m : Int) (xs : List Int), m ≤ maxI m xs ∧ (∀ x ∈ xs, x ≤ maxI m xs) ∧ (maxI m xs = m ∨ maxI m xs ∈ xs)
  | m, [] => ⟨Int.le_refl _, by simp, .inl rfl⟩
  | m, x :: xs => by
    obtain ⟨h1, h2, h3⟩ := maxI_le (if m < x then x else m) xs
    show m ≤ maxI (if m < x then x else m) xs ∧ (∀ y ∈ x :: xs, y ≤ maxI (if m < x then x else m) xs) ∧ (maxI (if m < x then x else m) xs = m ∨ maxI (if m < x then x else m) xs ∈ x :: xs)
    have a0 : m ≤ (if m < x then x else m) ∧ x ≤ (if m < x then x else m) := by split <;> omega
    have a : m ≤ maxI (if m < x then x else m) xs ∧ x ≤ maxI (if m < x then x else m) xs := ⟨Int.le_trans a0.1 h1, Int.le_trans a0.2 h1⟩
    refine ⟨a.1, fun y hy => ?_, ?_⟩
    · rcases List.mem_cons.mp hy with rfl | hy
      · exact a.2
      · exact h2 y hy
    · rcases h3 with h3 | h3
      · rw [h3]
        split
        · exact .inr List.mem_cons_self
        · exact .inl rfl
      · exact .inr (List.mem_cons_of_mem _ h3)
def lstD : D → Option (List D)
  | .lst _ xs => some xs
  | .cst xs => some xs
  | _ => none
theorem lst_of {ca : Str → Addr} {F H : Hp} {a : D} {x : V} {f : Ct} {xs : List D} (sm : Same F H) (h : RepO K ca F H a x f) (e : lstD a = some xs) : ∃ p vs g, x = .ref p ∧ SqL K H p vs ∧ RepOs K ca F H xs vs g := by
  cases a with
  | cst ds =>
    cases (show some ds = some xs from e)
    obtain ⟨⟨a, vs, rfl, h1, h2⟩, _⟩ := h
    exact ⟨a, vs, _, rfl, sm.seq h1, h2.os⟩
  | lst m ds =>
    cases (show some ds = some xs from e)
    cases m with
    | true =>
      obtain ⟨a, vs, g, rfl, h1, h2, _⟩ := h
      exact ⟨a, vs, g, rfl, sqOf h1, h2⟩
    | false =>
      obtain ⟨⟨a, vs, rfl, h1, h2⟩, _⟩ := h
      exact ⟨a, vs, _, rfl, sqOf (sm _ _ h1), h2.os⟩
  | _ => cases e
def gMinL : List D → Option D
  | [a] => match (lstD a).bind intsOf with
    | some (m :: r) => some (.int (minI m r))
    | _ => none
  | _ => none
def gMaxL : List D → Option D
  | [a] => match (lstD a).bind intsOf with
    | some (m :: r) => some (.int (maxI m r))
    | _ => none
  | _ => none
def gSum : List D → Option D
  | [a] => match (lstD a).bind intsOf with
    | some ns => some (.int ns.sum)
    | _ => none
  | _ => none
theorem sMinL : CallS K (rMin K) gMinL := by
  intro ca F H xs as d f1 Q sm hx e q
  unfold gMinL at e
  split at e
  · rename_i a
    split at e
    · rename_i m r e1
      cases e
      obtain ⟨x, g, rfl, h⟩ := repOs1 hx
      obtain ⟨ds, e2, e3⟩ := bind_some e1
      obtain ⟨p, vs, g, rfl, h1, h2⟩ := lst_of sm h e2
      refine ⟨p, m :: r, rfl, by rw [← repOs_ints h2 e3]; exact h1, by simp, fun n hn hle => ?_⟩
      have k := minI_le m r
      have : n = minI m r := by
          have a1 : minI m r ≤ n := by
            rcases List.mem_cons.mp hn with rfl | z
            · exact k.1
            · exact k.2.1 n z
          have a2 : n ≤ minI m r := by
            rcases k.2.2 with z | z
            · rw [z]; exact hle m List.mem_cons_self
            · exact hle _ (List.mem_cons_of_mem _ z)
          omega
      subst this
      exact q (.int _) _ (Rep.o (d := .int _) rfl)
    · cases e
  · cases e

theorem sMaxL : CallS K (rMax K) gMaxL := by
  intro ca F H xs as d f1 Q sm hx e q
  unfold gMaxL at e
  split at e
  · rename_i a
    split at e
    · rename_i m r e1
      cases e
      obtain ⟨x, g, rfl, h⟩ := repOs1 hx
      obtain ⟨ds, e2, e3⟩ := bind_some e1
      obtain ⟨p, vs, g, rfl, h1, h2⟩ := lst_of sm h e2
      refine ⟨p, m :: r, rfl, by rw [← repOs_ints h2 e3]; exact h1, by simp, fun n hn hle => ?_⟩
      have k := maxI_le m r
      have : n = maxI m r := by
          have a1 : n ≤ maxI m r := by
            rcases List.mem_cons.mp hn with rfl | z
            · exact k.1
            · exact k.2.1 n z
          have a2 : maxI m r ≤ n := by
            rcases k.2.2 with z | z
            · rw [z]; exact hle m List.mem_cons_self
            · exact hle _ (List.mem_cons_of_mem _ z)
          omega
      subst this
      exact q (.int _) _ (Rep.o (d := .int _) rfl)
    · cases e
  · cases e

theorem sSum : CallS K (rSum K) gSum := by
  intro ca F H xs as d f1 Q sm hx e q
  unfold gSum at e
  split at e
  · rename_i a
    split at e
    · rename_i ns e1
      cases e
      obtain ⟨x, g, rfl, h⟩ := repOs1 hx
      obtain ⟨ds, e2, e3⟩ := bind_some e1
      obtain ⟨p, vs, g, rfl, h1, h2⟩ := lst_of sm h e2
      exact ⟨p, ns, rfl, by rw [← repOs_ints h2 e3]; exact h1, q (.int _) _ (Rep.o (d := .int _) rfl)⟩
    · cases e
  · cases e

/-- the boolsOf of a list of boolsOf -/
def boolsOf : List D → Option (List Bool)
  | [] => some []
  | .bl i :: r => (boolsOf r).map (i :: ·)
  | _ => none
theorem bools_map : ∀ ns : List Bool, boolsOf (ns.map D.bl) = some ns
  | [] => rfl
  | i :: r => by show (boolsOf (r.map D.bl)).map (i :: ·) = _; rw [bools_map r]; rfl
theorem repOs_bools {ca : Str → Addr} {F H : Hp} : ∀ {ds : List D} {vs : List V} {f : Ct} {ns : List Bool}, RepOs K ca F H ds vs f → boolsOf ds = some ns → vs = ns.map V.bl
  | [], vs, f, ns, h, e => by
    cases (show some [] = some ns from e)
    exact h.1
  | d :: r, vs, f, ns, h, e => by
    obtain ⟨v, r', f1, f2, h1, h2, h3, _⟩ := h
    cases d with
    | bl i =>
      have e' : (boolsOf r).map (i :: ·) = some ns := e
      cases e2 : boolsOf r with
      | none => rw [e2] at e'; cases e'
      | some ms =>
        rw [e2] at e'
        cases (show some (i :: ms) = some ns from e')
        rw [h1, repOs_bools h3 e2, (show v = .bl i from h2.1)]
        rfl
    | _ => cases e
def gAll : List D → Option D
  | [a] => match (lstD a).bind boolsOf with
    | some ns => some (.bl (ns.all id))
    | _ => none
  | _ => none
def gAny : List D → Option D
  | [a] => match (lstD a).bind boolsOf with
    | some ns => some (.bl (ns.any id))
    | _ => none
  | _ => none
theorem sAll : CallS K (rAll K) gAll := by
  intro ca F H xs as d f1 Q sm hx e q
  unfold gAll at e
  split at e
  · rename_i a
    split at e
    · rename_i ns e1
      cases e
      obtain ⟨x, g, rfl, h⟩ := repOs1 hx
      obtain ⟨ds, e2, e3⟩ := bind_some e1
      obtain ⟨p, vs, g, rfl, h1, h2⟩ := lst_of sm h e2
      exact ⟨p, ns, rfl, by rw [← repOs_bools h2 e3]; exact h1, q (.bl _) _ (Rep.o (d := .bl _) rfl)⟩
    · cases e
  · cases e

theorem sAny : CallS K (rAny K) gAny := by
  intro ca F H xs as d f1 Q sm hx e q
  unfold gAny at e
  split at e
  · rename_i a
    split at e
    · rename_i ns e1
      cases e
      obtain ⟨x, g, rfl, h⟩ := repOs1 hx
      obtain ⟨ds, e2, e3⟩ := bind_some e1
      obtain ⟨p, vs, g, rfl, h1, h2⟩ := lst_of sm h e2
      exact ⟨p, ns, rfl, by rw [← repOs_bools h2 e3]; exact h1, q (.bl _) _ (Rep.o (d := .bl _) rfl)⟩
    · cases e
  · cases e

/-! ### isinstance -/
def tyOfD : D → Option String
  | .non => none | .bl _ => some "bool" | .int _ => some "int" | .str _ => some "str"
  | .tup _ => some "tuple" | .lst _ _ => some "list" | .cst _ => some "list" | .ty _ => none | .obj _ _ _ _ => none
def isiT (t u : String) : Option Bool := if t = u then some true else if t = "bool" ∧ u = "int" then some true else if t ∈ ["bool", "int", "str", "tuple", "list"] ∧ u ∈ ["bool", "int", "str", "tuple", "list"] then some false else none
def gIsi : List D → Option D
  | [a, .ty u] => match tyOfD a with
    | some t => if t ∈ ["bool", "int", "str", "tuple", "list"] ∧ u ∈ ["bool", "int", "str", "tuple", "list"] then some (.bl (decide (t = u) || (decide (t = "bool") && decide (u = "int")))) else none
    | none => none
  | _ => none
theorem kitOne_isi {K : PySem.W.Frag} {t u : String} (h : t ∈ ["bool", "int", "str", "tuple", "list"]) (k : u ∈ ["bool", "int", "str", "tuple", "list"]) : PySem.W.kitOne K (.type t) (.type u) = some (decide (t = u) || (decide (t = "bool") && decide (u = "int"))) := by
  simp only [List.mem_cons, List.not_mem_nil, or_false] at h k
  rcases h with rfl | rfl | rfl | rfl | rfl <;> rcases k with rfl | rfl | rfl | rfl | rfl <;> exact kit_ty (by decide +kernel)
theorem ty_of {ca : Str → Addr} {F H : Hp} {a : D} {x : V} {f : Ct} {t : String} (sm : Same F H) (h : RepO K ca F H a x f) (e : tyOfD a = some t) : TyX K H x (.type t) := by
  have L : ∀ {p vs}, SqL K H p vs → TyX K H (.ref p) (.type "list") := fun {p vs} s => by
    rcases s with (s | ⟨o, s⟩) | ⟨o, its, n, k1, k2, _⟩
    · exact .base (.lst s)
    · exact .base (.frz s)
    · exact .kList k1 k2
  have T : ∀ {p vs}, SqT K H p vs → TyX K H (.ref p) (.type "tuple") := fun {p vs} s => by
    rcases s with (s | ⟨o, s⟩) | ⟨o, its, n, k1, k2, _⟩
    · exact .base (.tup s)
    · exact .fTuple s
    · exact .kTuple k1 k2
  cases a with
  | bl b => cases (show x = .bl b from h.1); cases (show some "bool" = some t from e); exact .base (.bl b)
  | int b => cases (show x = .int b from h.1); cases (show some "int" = some t from e); exact .base (.int b)
  | str b => cases (show x = .str b from h.1); cases (show some "str" = some t from e); exact .base (.str b)
  | tup ds =>
    cases (show some "tuple" = some t from e)
    obtain ⟨⟨a, vs, rfl, h1, h2⟩, _⟩ := h
    exact T (sqT_same sm h1)
  | cst ds =>
    cases (show some "list" = some t from e)
    obtain ⟨p, vs, g, rfl, h1, h2⟩ := lst_of sm h rfl
    exact L h1
  | lst m ds =>
    cases (show some "list" = some t from e)
    obtain ⟨p, vs, g, rfl, h1, h2⟩ := lst_of sm h rfl
    exact L h1
  | _ => cases e
theorem sIsi : CallS K (rIsi K) gIsi := by
  intro ca F H xs as d f1 Q sm hx e q
  unfold gIsi at e
  split at e
  · rename_i a u
    obtain ⟨x, y, g, g', rfl, h, h'⟩ := repOs2 hx
    cases (show y = .ty u from h'.1)
    split at e
    · rename_i t et
      by_cases c : t ∈ ["bool", "int", "str", "tuple", "list"] ∧ u ∈ ["bool", "int", "str", "tuple", "list"]
      · rw [if_pos c] at e
        cases e
        exact ⟨x, .ty u, _, _, _, rfl, .ty u, ty_of sm h et, kitOne_isi c.1 c.2, q (.bl _) _ (Rep.o (d := .bl _) rfl)⟩
      · rw [if_neg c] at e; cases e
    · cases e
  · cases e

/-! ### in -/
def flatD : D → Bool
  | .non => true | .bl _ => true | .int _ => true | .str _ => true | _ => false
def toV : D → V
  | .non => .non | .bl b => .bl b | .int i => .int i | .str s => .str s | _ => .non
theorem flat_of {ca : Str → Addr} {F H : Hp} {a : D} {x : V} {f : Ct} (h : RepO K ca F H a x f) (e : flatD a = true) : x = toV a ∧ flatV x = true := by
  cases a with
  | non => cases (show x = .non from h.1); exact ⟨rfl, rfl⟩
  | bl b => cases (show x = .bl b from h.1); exact ⟨rfl, rfl⟩
  | int b => cases (show x = .int b from h.1); exact ⟨rfl, rfl⟩
  | str b => cases (show x = .str b from h.1); exact ⟨rfl, rfl⟩
  | _ => cases e
theorem flats_of {ca : Str → Addr} {F H : Hp} : ∀ {ds : List D} {vs : List V} {f : Ct}, RepOs K ca F H ds vs f → ds.all flatD = true → vs = ds.map toV ∧ vs.all flatV = true
  | [], vs, f, h, e => by cases (show vs = [] from h.1); exact ⟨rfl, rfl⟩
  | d :: ds, vs, f, ⟨v, r, f1, f2, h1, h2, h3, _⟩, e => by
    rw [List.all_cons, Bool.and_eq_true] at e
    obtain ⟨k1, k2⟩ := flat_of h2 e.1
    obtain ⟨k3, k4⟩ := flats_of h3 e.2
    subst h1
    refine ⟨by rw [List.map_cons, ← k1, ← k3], ?_⟩
    rw [List.all_cons, k2, k4]; rfl
def gIn (neg : Bool) (a b : D) : Option D := match itemsD b with
  | some xs => if flatD a = true ∧ xs.all flatD = true then some (.bl (if neg then !inV (toV a) (xs.map toV) else inV (toV a) (xs.map toV))) else none
  | none => none
theorem sIn {neg : Bool} : OpS K (rIn K neg) (gIn neg) := by
  intro ca F H x y a b d f1 f2 Q sm hx hy e q
  unfold gIn at e
  cases ei : itemsD b with
  | none => rw [ei] at e; cases e
  | some xs =>
    rw [ei] at e
    by_cases c : flatD a = true ∧ xs.all flatD = true
    · simp only [c, and_self, if_true] at e
      cases e
      obtain ⟨p, vs, g, rfl, h1, h2⟩ := seq_of sm hy ei
      obtain ⟨k1, k2⟩ := flat_of hx c.1
      obtain ⟨k3, k4⟩ := flats_of h2 c.2
      refine ⟨p, vs, rfl, h1, k2, k4, ?_⟩
      rw [k1, k3]
      exact q (.bl _) _ (Rep.o (d := .bl _) rfl)
    · simp only [c, if_false] at e; cases e
/-- a sign in a text -/
def gInS (neg : Bool) (a b : D) : Option D := match a, b with
  | .str c, .str z => match c.cps.toList with
    | [k] => some (.bl (if neg then !decide (k ∈ z.cps.toList) else decide (k ∈ z.cps.toList)))
    | _ => none
  | _, _ => none
theorem str_one {c : Str} {k : Nat} (h : c.cps.toList = [k]) : c = ⟨#[k]⟩ := by
  cases c with
  | mk cps =>
    have : cps = #[k] := by
      apply Array.toList_inj.mp
      exact h
    rw [this]
theorem sInS : OpS K (fun x y H Q => ∃ (c : Nat) (z : Str), x = .str ⟨#[c]⟩ ∧ y = .str z ∧ Q (.bl (decide (c ∈ z.cps.toList))) H) (gInS false) := by
  intro ca F H x y a b d f1 f2 Q sm hx hy e q
  unfold gInS at e
  split at e
  · rename_i c z
    split at e
    · rename_i k h
      cases e
      exact ⟨k, z, by rw [(show x = .str c from hx.1), str_one h], hy.1, q (.bl _) _ (Rep.o (d := .bl _) rfl)⟩
    · cases e
  · cases e

theorem sNotInS : OpS K (fun x y H Q => ∃ (c : Nat) (z : Str), x = .str ⟨#[c]⟩ ∧ y = .str z ∧ Q (.bl (!decide (c ∈ z.cps.toList))) H) (gInS true) := by
  intro ca F H x y a b d f1 f2 Q sm hx hy e q
  unfold gInS at e
  split at e
  · rename_i c z
    split at e
    · rename_i k h
      cases e
      exact ⟨k, z, by rw [(show x = .str c from hx.1), str_one h], hy.1, q (.bl _) _ (Rep.o (d := .bl _) rfl)⟩
    · cases e
  · cases e

end
end Bn

/-! Append, slices, join, the module's constants. -/
namespace Bn
open PySem PySem.Spec PyProof.Rows L2
section
variable {X : Cx} {B : Bx} {W : WX}
def sApp (i : Nat) (m : ME) : MS := fun τ => match τ.getD i none with
  | some (.lst true _) => (m τ).s fun d τ1 => (match τ1.getD i none with
    | some (.lst true es) => if es.length < 1000000 then .nx (τ1.set i (some (.lst true (es ++ [d])))) else .bad
    | _ => .bad)
  | _ => .bad
theorem s_app {i : Nat} {o e : Expr} {apos cpos pos : Pos} {m : ME} (ho : PE X o (tVar i)) (he : PE X e (rdE X.K B W m))
    (hbase : attributeBase o "append" X.env (eval o X.env) = eval o X.env := by rfl)
    (hfew : ((backTo cpos (starEach [e] X.env)).all (fun x => !x.1) && (backToKw cpos (keywordEach [] X.env)).all (fun x => x.1.isSome)
      && decide ([e].length + ([] : List Keyword).length + (if ([] : List Keyword).isEmpty then 0 else 1) < 30)) = true := by rfl)
    (hline : (apos.endLine == cpos.line) = true := by rfl) (hs : starEach [e] X.env = (false, eval e X.env) :: starEach [] X.env := by rfl) (hplain : (backTo cpos (starEach [] X.env)).any (·.1) = false := by rfl)
    (hsw : swapsWith (.Call (.Attribute o "append" apos) [e] [] cpos) none pos.line X.env = pure false := by rfl) : PS X (.Expr (.Call (.Attribute o "append" apos) [e] [] cpos) pos) (rdS X.K B W (sApp i m)) :=
  PS.imp (ps_expr (pe_bm PySem.F.plainAttrs_list PySem.F.slot_list_append PySem.F.type_list_append mt_append ho (pa_cons he pa_nil hs) hbase hfew hline hs hplain) hsw) fun D σ H ⟨F, τ, vs, ds, s, p⟩ => by
    unfold sApp at p
    split at p
    · rename_i es0 e0
      obtain ⟨v, f, h1, a, us, g, rfl, h2, _⟩ := s.get (getD_some e0)
      refine ⟨.ref a, h1, .inl ⟨rfl, us, sqOf h2⟩, F, τ, vs, ds, s, post_imp (post_s (σ := σ) p) (fun d τ1 q y F1 H1 s1 => ?_) fun _ _ q => q⟩
      split at q
      · rename_i es e1
        have e1' := getD_some e1
        obtain ⟨v, k1, s2⟩ := s1.take e1'
        rw [h1] at k1
        cases k1
        by_cases hl : es.length < 1000000
        · rw [if_pos hl] at q
          obtain ⟨f, a', us', g, ea, hx, hg, _⟩ := s2.top
          cases ea
          refine ⟨a, us', y, rfl, rfl, hx, by rw [hg.length, sizeLine_eq]; omega, ?_⟩
          have s3 := s2.change (us := [y]) (ds := [d]) (ys := us' ++ [y]) (es2 := es ++ [d]) rfl hx fun g1 g2 r1 r2 => ⟨_, r1.append r2, fun b => Nat.le_refl _⟩
          have s4 := s3.putBack (i := i) (by rw [List.length_set]; exact (List.getElem?_eq_some_iff.mp e1').1) h1
          rw [List.set_set] at s4
          exact q σ F1 _ s4
        · rw [if_neg hl] at q; exact q.elim
      · exact q.elim
    · exact p.elim

/-! ### slices -/
def rdP (K : PySem.W.Frag) (B : Bx) (W : WX) (p : Env → R (Option Int)) : TO := fun σ H Q => ∃ F τ vs ds, StT K B F H σ τ vs ds ∧ post (fun o τ' => ∀ F' H', StT K B F' H' σ τ' vs ds → Q o H') (exW K B W σ vs ds) (p τ)
theorem PO.imp {e : Option Expr} {t t' : TO} (h : PO X e t) (k : ∀ σ H Q, t' σ H Q → t σ H Q) : PO X e t' := ⟨fun p s σ H Q I q => h.run p s σ H Q I (k _ _ _ q)⟩
def pNone : Env → R (Option Int) := fun τ => .ok none τ
def pSome (m : ME) : Env → R (Option Int) := fun τ => (m τ).bind fun d τ1 => match d with
  | .int i => .ok (some i) τ1
  | _ => .bad
theorem pe_none : PO X none (rdP X.K B W pNone) := PO.imp po_none fun σ H Q ⟨F, τ, vs, ds, s, k⟩ => k F H s
theorem pe_some {e : Expr} {m : ME} (h : PE X e (rdE X.K B W m)) : PO X (some e) (rdP X.K B W (pSome m)) := PO.imp (po_some h) fun σ H Q ⟨F, τ, vs, ds, s, k⟩ => by
  refine ⟨F, τ, vs, ds, s, post_imp (post_bind k) (fun d τ1 q v F1 H1 s1 => ?_) fun _ _ q => q⟩
  cases d with
  | int i => exact ⟨i, s1.topF rfl, q F1 H1 s1.pop⟩
  | _ => exact False.elim q
def cutL {α : Type} (xs : List α) (lo hi : Option Int) : List α := (xs.drop (HT.sIx xs.length 0 lo)).take (HT.sIx xs.length xs.length hi - HT.sIx xs.length 0 lo)
theorem RepL.drop {K : PySem.W.Frag} {ca : Str → Addr} {F : Hp} : ∀ {ds : List D} {vs : List V} (n : Nat), RepL K ca F ds vs → RepL K ca F (ds.drop n) (vs.drop n)
  | [], vs, n, h => by cases (show vs = [] from h); simp; exact rfl
  | d :: ds, vs, 0, h => h
  | d :: ds, _, n + 1, ⟨v, r, h1, h2, h3⟩ => by subst h1; exact h3.drop n
theorem RepL.take {K : PySem.W.Frag} {ca : Str → Addr} {F : Hp} : ∀ {ds : List D} {vs : List V} (n : Nat), RepL K ca F ds vs → RepL K ca F (ds.take n) (vs.take n)
  | [], vs, n, h => by cases (show vs = [] from h); simp; exact rfl
  | d :: ds, vs, 0, h => rfl
  | d :: ds, _, n + 1, ⟨v, r, h1, h2, h3⟩ => by subst h1; exact ⟨v, r.take n, rfl, h2, h3.take n⟩
theorem RepL.cut {K : PySem.W.Frag} {ca : Str → Addr} {F : Hp} {ds : List D} {vs : List V} (h : RepL K ca F ds vs) (lo hi : Option Int) : RepL K ca F (cutL ds lo hi) (cutV vs lo hi) := by
  unfold cutL cutV
  rw [h.length]
  exact (h.drop _).take _
def slR (d : D) (p r : Env → R (Option Int)) (f : D → Option Int → Option Int → Option D) (τ : Env) : R D := (p τ).bind fun lo τ1 => (r τ1).bind fun hi τ2 => match f d lo hi with
  | some x => .ok x τ2
  | none => .bad
def cutLd (d : D) (lo hi : Option Int) : Option D := match d with
  | .lst _ es => some (.lst true (cutL es lo hi))
  | .cst es => some (.lst true (cutL es lo hi))
  | _ => none
def cutSd (d : D) (lo hi : Option Int) : Option D := match d with
  | .str z => if z.length ≤ 1000000 then some (.str (cutS z lo hi)) else none
  | _ => none
def cutTd (d : D) (lo hi : Option Int) : Option D := match d with
  | .tup es => if HT.sIx es.length 0 lo = 0 ∧ HT.sIx es.length es.length hi = es.length then none else some (.tup (cutL es lo hi))
  | _ => none
def eSlice (f : D → Option Int → Option Int → Option D) (m : ME) (p r : Env → R (Option Int)) : ME := fun τ => (m τ).bind fun d τ1 => slR (freeze d) p r f τ1
theorem e_slice {e : Expr} {lo hi : Option Expr} {p2 pos : Pos} {m : ME} {p r : Env → R (Option Int)} {rd : V → Option Int → Option Int → Hp → VK → Prop} {f : D → Option Int → Option Int → Option D} (hr : SlR X rd)
    (hf : ∀ {F H σ τ v vs d ds l h x Q}, isFz d = true → f d l h = some x → StT X.K B F H σ τ (v :: vs) (d :: ds) → (∀ u F' H', StT X.K B F' H' σ τ (u :: vs) (x :: ds) → Q u H') → rd v l h H Q)
    (he : PE X e (rdE X.K B W m)) (hl : PO X lo (rdP X.K B W p)) (hu : PO X hi (rdP X.K B W r)) : PE X (.Subscript e (.Slice lo hi none p2) pos) (rdE X.K B W (eSlice f m p r)) :=
  PE.imp (pe_slice hr he hl hu) fun σ H Q ⟨F, τ, vs, ds, s, k⟩ => by
    refine ⟨F, τ, vs, ds, s, post_imp (post_bind k) (fun d τ1 q v F1 H1 s1 => ?_) fun _ _ q => q⟩
    obtain ⟨F2, s2⟩ := s1.freeze1
    refine ⟨F2, τ1, _, _, s2, post_imp (post_bind q) (fun l τ2 q F3 H3 s3 => ?_) fun c τ2 q F3 H3 s3 => q F3 H3 s3.pop⟩
    refine ⟨F3, τ2, _, _, s3, post_imp (post_bind q) (fun h τ3 q F4 H4 s4 => ?_) fun c τ2 q F3 H3 s3 => q F3 H3 s3.pop⟩
    cases ef : f (freeze d) l h with
    | none => rw [ef] at q; exact False.elim q
    | some x =>
      rw [ef] at q
      exact hf (freeze_fz d) ef s4 q
theorem e_sliceL {e : Expr} {lo hi : Option Expr} {p2 pos : Pos} {m : ME} {p r : Env → R (Option Int)} (he : PE X e (rdE X.K B W m)) (hl : PO X lo (rdP X.K B W p)) (hu : PO X hi (rdP X.K B W r)) : PE X (.Subscript e (.Slice lo hi none p2) pos) (rdE X.K B W (eSlice cutLd m p r)) :=
  e_slice sl_list (fun {F H σ τ v vs d ds l h x Q} z e s k => by
    cases d with
    | lst b es =>
      cases b with
      | true => cases z
      | false =>
        cases (show some (D.lst true (cutL es l h)) = some x from e)
        obtain ⟨a, us, ev, h1, h2⟩ := s.topF rfl
        subst ev
        exact ⟨a, us, rfl, sqOf (s.same _ _ h1), fun np hnp => k _ _ _ (((s.pop).pushL (h2.cut l h)).newLst (h2.cut l h).length hnp)⟩
    | cst es =>
      cases (show some (D.lst true (cutL es l h)) = some x from e)
      obtain ⟨a, us, ev, h1, h2⟩ := s.topF rfl
      subst ev
      exact ⟨a, us, rfl, s.same.seq h1, fun np hnp => k _ _ _ (((s.pop).pushL (h2.cut l h)).newLst (h2.cut l h).length hnp)⟩
    | _ => cases e) he hl hu
theorem e_sliceS {e : Expr} {lo hi : Option Expr} {p2 pos : Pos} {m : ME} {p r : Env → R (Option Int)} (he : PE X e (rdE X.K B W m)) (hl : PO X lo (rdP X.K B W p)) (hu : PO X hi (rdP X.K B W r)) : PE X (.Subscript e (.Slice lo hi none p2) pos) (rdE X.K B W (eSlice cutSd m p r)) :=
  e_slice sl_str (fun {F H σ τ v vs d ds l h x Q} z e s k => by
    cases d with
    | str zz =>
      by_cases hz : zz.length ≤ 1000000
      · have e' : (if zz.length ≤ 1000000 then some (D.str (cutS zz l h)) else none) = some x := e
        rw [if_pos hz] at e'
        cases e'
        exact ⟨zz, s.topF rfl, le_sizeLine hz, k _ _ _ (s.pop.push (d := .str _) rfl)⟩
      · have e' : (if zz.length ≤ 1000000 then some (D.str (cutS zz l h)) else none) = some x := e
        rw [if_neg hz] at e'; cases e'
    | _ => cases e) he hl hu
theorem e_sliceT {e : Expr} {lo hi : Option Expr} {p2 pos : Pos} {m : ME} {p r : Env → R (Option Int)} (he : PE X e (rdE X.K B W m)) (hl : PO X lo (rdP X.K B W p)) (hu : PO X hi (rdP X.K B W r)) : PE X (.Subscript e (.Slice lo hi none p2) pos) (rdE X.K B W (eSlice cutTd m p r)) :=
  e_slice sl_tup (fun {F H σ τ v vs d ds l h x Q} z e s k => by
    cases d with
    | tup es =>
      by_cases hw : HT.sIx es.length 0 l = 0 ∧ HT.sIx es.length es.length h = es.length
      · have e' : (if HT.sIx es.length 0 l = 0 ∧ HT.sIx es.length es.length h = es.length then none else some (D.tup (cutL es l h))) = some x := e
        rw [if_pos hw] at e'; cases e'
      · have e' : (if HT.sIx es.length 0 l = 0 ∧ HT.sIx es.length es.length h = es.length then none else some (D.tup (cutL es l h))) = some x := e
        rw [if_neg hw] at e'
        cases e'
        obtain ⟨a, us, ev, h1, h2⟩ := s.topF rfl
        subst ev
        exact ⟨a, us, rfl, sqT_same s.same h1, by rw [h2.length]; exact hw, fun np hnp => k _ _ _ (s.pop.newTup hnp (h2.cut l h))⟩
    | _ => cases e) he hl hu

/-! ### join -/
def strsOf : List D → Option (List Str)
  | [] => some []
  | .str i :: r => (strsOf r).map (i :: ·)
  | _ => none
theorem strs_map : ∀ ns : List Str, strsOf (ns.map D.str) = some ns
  | [] => rfl
  | i :: r => by show (strsOf (r.map D.str)).map (i :: ·) = _; rw [strs_map r]; rfl
theorem repOs_strs {K : PySem.W.Frag} {ca : Str → Addr} {F H : Hp} : ∀ {ds : List D} {vs : List V} {f : Ct} {ns : List Str}, RepOs K ca F H ds vs f → strsOf ds = some ns → vs = ns.map V.str
  | [], vs, f, ns, h, e => by
    cases (show some [] = some ns from e)
    exact h.1
  | d :: r, vs, f, ns, h, e => by
    obtain ⟨v, r', f1, f2, h1, h2, h3, _⟩ := h
    cases d with
    | str i =>
      have e' : (strsOf r).map (i :: ·) = some ns := e
      cases e2 : strsOf r with
      | none => rw [e2] at e'; cases e'
      | some ms =>
        rw [e2] at e'
        cases (show some (i :: ms) = some ns from e')
        rw [h1, repOs_strs h3 e2, (show v = .str i from h2.1)]
        rfl
    | _ => cases e
def eJoin (a b : ME) : ME := fun τ => (a τ).bind fun x τ1 => match x with
  | .str z => (b τ1).bind fun y τ2 => (match (itemsD y).bind strsOf with
    | some ys => if (ys.map (·.length)).sum + ys.length * z.length ≤ 1000000 then .ok (.str (Txt.join z ys)) τ2 else .bad
    | none => .bad)
  | _ => .bad
theorem e_join {o e : Expr} {apos pos : Pos} {a b : ME} (ho : PE X o (rdE X.K B W a)) (he : PE X e (rdE X.K B W b)) (hs : starEach [e] X.env = [(false, eval e X.env)] := by rfl) (hbase : attributeBase o "join" X.env (eval o X.env) = eval o X.env := by rfl) (hline : (apos.endLine == pos.line) = true := by rfl) :
    PE X (.Call (.Attribute o "join" apos) [e] [] pos) (rdE X.K B W (eJoin a b)) := PE.imp (pe_join ho he hs hbase hline) fun σ H Q ⟨F, τ, vs, ds, s, k⟩ => by
  refine ⟨F, τ, vs, ds, s, post_imp (post_bind k) (fun d τ1 q v F1 H1 s1 => ?_) fun _ _ q => q⟩
  cases d with
  | str z =>
    refine ⟨⟨z, s1.topF rfl⟩, F1, τ1, _, _, s1, post_imp (post_bind q) (fun d τ2 q w F2 H2 s2 => ?_) fun c τ2 q F2 H2 s2 => q F2 H2 s2.pop⟩
    split at q
    · rename_i ys ey
      obtain ⟨es, e1, e2⟩ := bind_some ey
      obtain ⟨f, hw⟩ := s2.top
      obtain ⟨p, us, g, rfl, h1, h2⟩ := seq_of s2.same hw e1
      by_cases hz : (ys.map (·.length)).sum + ys.length * z.length ≤ 1000000
      · rw [if_pos hz] at q
        refine ⟨z, p, ys, s1.topF rfl, rfl, by rw [← repOs_strs h2 e2]; exact h1, by omega, q _ _ _ (s2.pop.pop.push (d := .str _) rfl)⟩
      · rw [if_neg hz] at q; exact False.elim q
    · exact False.elim q
  | _ => exact False.elim q

/-! ### the module's constants -/
structure Kc (K : PySem.W.Frag) (mg : Str → Option Value) (x : Str) (d : D) : Prop where
  ex : ∃ v u, mg x = some u ∧ RelV v u ∧ ∀ ca F, Rep K ca F d v
theorem z_k {x : Str} {d : D} {pos : Pos} (k : Kc X.K X.mg x d) (hg : Gl X x) (hd : (x == ("__debug__" : Str)) = false := by decide) : PE X (.Name x pos) (rdZ X.K B (zC d)) := by
  obtain ⟨v, u, h1, h2, h3⟩ := k.ex
  exact z_c (pe_glob hg h1 h2 hd) fun F => h3 _ F
theorem kc_str {K : PySem.W.Frag} {mg : Str → Option Value} {x s : Str} {t : Tok} (h : mg x = some (.str s t)) : Kc K mg x (.str s) := ⟨.str s, _, h, ⟨t, rfl⟩, fun _ _ => rfl⟩
theorem kc_int {K : PySem.W.Frag} {mg : Str → Option Value} {x : Str} {s : Int} {t : Tok} (h : mg x = some (.int s t)) : Kc K mg x (.int s) := ⟨.int s, _, h, ⟨t, rfl⟩, fun _ _ => rfl⟩
/-- a tuple of texts -/
theorem repL_strs {K : PySem.W.Frag} {ca : Str → Addr} {F : Hp} : ∀ ss : List Str, RepL K ca F (ss.map D.str) (ss.map V.str)
  | [] => rfl
  | s :: r => ⟨.str s, r.map V.str, rfl, rfl, repL_strs r⟩
theorem kc_tupS {K : PySem.W.Frag} {mg : Str → Option Value} {x : Str} {a : Addr} {ss : List Str} (h : mg x = some (.ref a)) (hs : ∀ H, SqT K H a (ss.map V.str)) : Kc K mg x (.tup (ss.map D.str)) := ⟨.ref a, _, h, rfl, fun ca F => ⟨a, _, rfl, hs F, repL_strs ss⟩⟩
end
end Bn

/-! try .. except X as e: a suite that asks isinstance of e. -/
namespace Bn
open PySem PySem.Spec PyProof.Rows L2
abbrev Bx.withE (B : Bx) (i : Nat) (a : Addr) : Bx := { B with io := (i, .ref a) :: B.io }
theorem ioE {B : Bx} {i j : Nat} {a : Addr} (h : i ≠ j) (k : ioFree B j := by intro p hp; cases hp) : ioFree (B.withE i a) j := fun p hp => by
  rcases List.mem_cons.mp hp with rfl | hp
  · exact h
  · exact k p hp
def endAs (i : Nat) (r : SR) : SR := match r with
  | .nx τ => .nx (τ.set i none)
  | .rt d τ => .rt d τ
  | .bk τ => .bk (τ.set i none)
  | .ct τ => .ct (τ.set i none)
  | _ => .bad
def tryAs (i : Nat) (o : Option Bool) (c : Str) (τ : Env) (su : Str → MS) : SR := match o with
  | some true => if i < τ.length then endAs i (su c (τ.set i none)) else .bad
  | some false => .ex c τ
  | none => .bad
def sTryAs (i : Nat) (sub : Str → Option Bool) (b : MS) (su : Str → MS) : MS := fun τ => match b τ with
  | .ex c τ' => tryAs i (sub c) c τ' su
  | .nx τ' => .nx τ'
  | .rt d τ' => .rt d τ'
  | .bk τ' => .bk τ'
  | .ct τ' => .ct τ'
  | .bad => .bad
section
variable {X : Cx} {B : Bx} {W : WX}
theorem StT.withE {K : PySem.W.Frag} {F H : Hp} {σ : L2.St} {τ : Env} {vs : List V} {ds : List D} {i : Nat} {a : Addr} (s : StT K B F H σ τ vs ds) (hi : i < τ.length) (hf : ioFree B i) : StT K (B.withE i a) F H (σ.set i (some (.ref a))) (τ.set i none) vs ds := by
  have s1 := s.forget (i := i)
  have io : IoOk B σ := by obtain ⟨_, _, _, _, _, io⟩ := s; exact io
  have hl : σ.length = τ.length := by obtain ⟨_, _, A, _⟩ := s; exact A.length
  have s2 : StT K B F H (σ.set i (some (.ref a))) (τ.set i none) vs ds := s1.reset (by simp) (fun j d h => by
    have : j ≠ i := fun e => by
      subst e
      rw [List.getElem?_set_self hi] at h; cases h
    rw [List.getElem?_set_ne this.symm]) fun p hp => by rw [List.getElem?_set_ne (fun e => hf p hp e.symm)]; exact io p hp
  obtain ⟨f1, f2, A, b, w, io2⟩ := s2
  refine ⟨f1, f2, A, b, ⟨w.nd, w.dF, w.dR, w.sF, w.sR, w.s0, w.fr⟩, fun p hp => ?_⟩
  rcases List.mem_cons.mp hp with rfl | hp
  · rw [List.getElem?_set_self (by omega)]
  · exact io2 p hp
theorem StT.outE {K : PySem.W.Frag} {F H : Hp} {σ : L2.St} {τ : Env} {vs : List V} {ds : List D} {i : Nat} {a : Addr} (s : StT K (B.withE i a) F H σ τ vs ds) : StT K B F H σ τ vs ds := by
  obtain ⟨f1, f2, A, b, w, io2⟩ := s
  exact ⟨f1, f2, A, b, ⟨w.nd, w.dF, w.dR, w.sF, w.sR, w.s0, w.fr⟩, fun p hp => io2 p (List.mem_cons_of_mem _ hp)⟩
theorem StT.clearE {K : PySem.W.Frag} {F H : Hp} {σ : L2.St} {τ : Env} {vs : List V} {ds : List D} {i : Nat} (s : StT K B F H σ τ vs ds) (hf : ioFree B i) : StT K B F H (σ.set i none) (τ.set i none) vs ds := by
  have s1 := s.forget (i := i)
  have io : IoOk B σ := by obtain ⟨_, _, _, _, _, io⟩ := s; exact io
  have hl : σ.length = τ.length := by obtain ⟨_, _, A, _⟩ := s; exact A.length
  exact s1.reset (by simp) (fun j d h => by
    have : j ≠ i := fun e => by
      subst e
      by_cases hj : j < τ.length
      · rw [List.getElem?_set_self hj] at h; cases h
      · rw [List.getElem?_eq_none (by simp; omega)] at h; cases h
    rw [List.getElem?_set_ne this.symm]) fun p hp => by rw [List.getElem?_set_ne (fun e => hf p hp e.symm)]; exact io p hp
theorem s_tryAs {i : Nat} {x n : Str} {cv : Value} {body suite : List Stmt} {b₀ : Stmt} {np pos pos' : Pos} {b : MS} {su : Str → MS} (c : XOk X W) (hN : X.N.Nodup) (hi : X.N[i]? = some n) (hln : X.env.kindOf n = some .local) (sub : Str → Option Bool) (hn : Names X x cv) (hsub : ∀ y t, sub y = some t → PySem.W.exmOne X.K (.ref (B.ca y)) cv = some t) (hs : X.stack = X.env :: X.outer) (hf : X.env.frame = some X.env.locals)
    (hb : ∀ (W' : WX) (pn : List (Addr × Obj)) (xe : Value → Shared → Prop), XOk (X.tr pn xe) W' → PSs (X.tr pn xe) body (rdS X.K B W' b))
    (hsu : ∀ (a : Addr) (oe : Obj) (y : Str) (pn : List (Addr × Obj)), Zc (.ref (B.ca y)) none oe → (∃ vs, oe.data = .fields vs) → PSs (X.suite a ((a, oe) :: pn)) (b₀ :: suite) (rdS X.K (B.withE i a) W0 (su y))) (hio : ioFree B i := by intro p hp; cases hp) :
    PS X (.Try body [.ExceptHandler (some (.Name x np)) (some n) (b₀ :: suite) pos'] [] [] pos) (rdS X.K B W (sTryAs i sub b su)) :=
  PS.imp (ps_try_as (tb := fun W' => rdS X.K B W' b) (ts := fun a cls d => fun D σ H => ∃ y, cls = .ref (B.ca y) ∧ d = none ∧ rdS X.K (B.withE i a) W0 (su y) D σ H) hs hf hN hi hln hn c.tk (fun W' pn xe tk hp => hb W' pn xe ⟨tk, hp, c.calm⟩)
    fun a oe cls d pn hz hv => ⟨fun pins s σ H D I h => by
      obtain ⟨y, rfl, rfl, h⟩ := h
      exact (hsu a oe y pn hz hv).run pins s σ H D I h⟩) fun D σ H ⟨F, τ, vs, ds, s, p⟩ => by
    refine ⟨F, τ, vs, ds, s, ?_⟩
    unfold sTryAs at p
    cases e : b τ with
    | ex y τ' =>
      rw [e] at p
      intro σ' F' H' s'
      cases es : sub y with
      | none => simp only [es, tryAs] at p; exact p.elim
      | some t =>
        simp only [es] at p
        refine ⟨t, hsub y t es, fun ht a ha => ?_, fun ht => ?_⟩
        · subst ht
          by_cases hl : i < τ'.length
          · simp only [tryAs, hl, if_true] at p
            refine ⟨y, rfl, rfl, F', _, vs, ds, s'.withE hl hio, ?_⟩
            cases e2 : su y (τ'.set i none) with
            | nx τ2 => rw [e2] at p; exact fun σ2 F2 H2 s2 => p _ F2 H2 (s2.outE.clearE hio)
            | rt d τ2 => rw [e2] at p; exact fun v σ2 F2 H2 s2 => p v σ2 F2 H2 s2.outE
            | bk τ2 => rw [e2] at p; exact fun σ2 F2 H2 s2 => p _ F2 H2 (s2.outE.clearE hio)
            | ct τ2 => rw [e2] at p; exact fun σ2 F2 H2 s2 => p _ F2 H2 (s2.outE.clearE hio)
            | ex c2 τ2 => rw [e2] at p; exact p.elim
            | bad => rw [e2] at p; exact p.elim
          · simp only [tryAs, hl, if_false] at p; exact p.elim
        · subst ht; exact p σ' F' H' s'
    | _ => rw [e] at p; exact p
def eIs (o : Option Bool) : ME := fun τ => match o with
  | some b => .ok (.bl b) τ
  | none => .bad
theorem e_isE {i : Nat} {a : Addr} {oe : Obj} {pn : List (Addr × Obj)} {y : Str} {n A : Str} {vA : V} {cvA : Value} {o : Option Bool} {p p1 p2 pos : Pos} (hz : Zc (.ref (B.ca y)) none oe) (hv : ∃ vs, oe.data = .fields vs)
    (he : PE (X.suite a ((a, oe) :: pn)) (.Name n p1) (tVar i)) (hA : PE (X.suite a ((a, oe) :: pn)) (.Name A p2) (tC vA)) (hcv : ∀ u, RelV vA u → u = cvA) (hC : ∀ t, o = some t → ExcC X.K (B.ca y) ∧ PySem.W.kitOne X.K (.ref (B.ca y)) cvA = some t)
    (hg : Gl (X.suite a ((a, oe) :: pn)) "isinstance") (hm : X.mg "isinstance" = none)
    (hs1 : starEach [.Name n p1, .Name A p2] (X.suite a ((a, oe) :: pn)).env = (false, eval (.Name n p1) (X.suite a ((a, oe) :: pn)).env) :: starEach [.Name A p2] (X.suite a ((a, oe) :: pn)).env := by rfl)
    (hs2 : starEach [.Name A p2] (X.suite a ((a, oe) :: pn)).env = (false, eval (.Name A p2) (X.suite a ((a, oe) :: pn)).env) :: starEach [] (X.suite a ((a, oe) :: pn)).env := by rfl)
    (hpl : (backTo pos (starEach [.Name A p2] (X.suite a ((a, oe) :: pn)).env)).any (·.1) = false := by rfl) :
    PE (X.suite a ((a, oe) :: pn)) (.Call (.Name "isinstance" p) [.Name n p1, .Name A p2] [] pos) (rdE X.K (B.withE i a) W0 (eIs o)) := by
  cases o with
  | none => exact ⟨fun _ _ _ _ _ _ ⟨F, τ, vs, ds, s, h⟩ => False.elim h⟩
  | some t =>
    obtain ⟨C, hk⟩ := hC t rfl
    refine PE.imp (pe_callB (call_isE C hz hv) hg hm (by decide +kernel) (pa_cons he (pa_cons hA pa_nil hs2) hs1) (by decide) (by decide) hs1 hpl) fun σ H Q ⟨F, τ, vs, ds, s, h⟩ => ?_
    have io : IoOk (B.withE i a) σ := by obtain ⟨_, _, _, _, _, io⟩ := s; exact io
    exact ⟨.ref a, io (i, .ref a) List.mem_cons_self, vA, cvA, t, rfl, hcv, hk, h (.bl t) F H (s.push (d := .bl t) rfl)⟩
end
theorem kit_same {K : PySem.W.Frag} {a : Addr} : PySem.W.kitOne K (.ref a) (.ref a) = some true := by
  unfold PySem.W.kitOne
  rw [if_pos (by simp)]
theorem kit_type {K : PySem.W.Frag} {a : Addr} {T : String} {b : Bool} (hm : PySem.W.kitMeta T = true) (h : PySem.W.subIn K (.ref a) (.type T) = some b) : PySem.W.kitOne K (.ref a) (.type T) = some b := by
  unfold PySem.W.kitOne
  rw [if_neg (by intro z; cases z)]
  unfold PySem.W.kitCls
  simp only [hm, if_true]
  exact h
theorem kit_ref {K : PySem.W.Frag} {a x : Addr} {b : Bool} (h1 : PySem.W.hasDictIn K x = true) (ht : PySem.W.typeIn K (.ref x) = some (.type "type")) (h4 : PySem.W.subIn K (.ref a) (.ref x) = some b) (hb : b = true ∨ (a == x) = false) : PySem.W.kitOne K (.ref a) (.ref x) = some b := by
  obtain ⟨cd, hc, _⟩ := PySem.W.any_some h1
  have e2 : ((PySem.W.clsIn K x).isSome && PySem.W.typeIn K (.ref x) == some (.type "type")) = true := by rw [hc, ht] <;> rfl
  unfold PySem.W.kitOne
  by_cases e : a = x
  · subst e
    rw [if_pos (by simp)]
    rcases hb with rfl | hb
    · rfl
    · simp at hb
  · rw [if_neg (by simp; exact e)]
    show (if ((PySem.W.clsIn K x).isSome && PySem.W.typeIn K (.ref x) == some (.type "type")) = true then PySem.W.subIn K (.ref a) (.ref x) else none) = some b
    rw [if_pos e2]
    exact h4
theorem exm_type {K : PySem.W.Frag} {a : Addr} {T : String} {b : Bool} (h1 : PySem.W.subIn K (.type T) (.type "BaseException") = some true) (hm : PySem.W.kitMeta T = true) (h : PySem.W.subIn K (.ref a) (.type T) = some b) : PySem.W.exmOne K (.ref a) (.type T) = some b := by
  unfold PySem.W.exmOne
  rw [if_pos (by rw [h1]; rfl)]
  unfold PySem.W.kitCls
  simp only [hm, if_true]
  exact h
end Bn
namespace Bn
open PySem PySem.Spec PyProof.Rows L2
/-- list(xs): a new list -/
def eLstOf (m : MA) : ME := fun τ => (m τ).bind fun ds τ1 => match freezeL ds with
  | [.lst _ es] => .ok (.lst true es) τ1
  | [.tup es] => .ok (.lst true es) τ1
  | _ => .bad
theorem e_lstOf {X : Cx} {B : Bx} {W : WX} {x : Str} {p pos : Pos} {e : Expr} {m : MA} (hg : Gl X x) (hm : X.mg x = none) (hv : bootBuiltins x = some (.type "list")) (ha : PA X [e] (rdA X.K B W m)) (hn : x ≠ "__name__" := by decide) (hdb : (x == ("__debug__" : Str)) = false := by decide)
    (he : starEach [e] X.env = (false, eval e X.env) :: starEach [] X.env := by rfl) (hpl : (backTo pos (starEach [] X.env)).any (·.1) = false := by rfl) : PE X (.Call (.Name x p) [e] [] pos) (rdE X.K B W (eLstOf m)) := PE.imp (pe_callTy call_list_of hg hm hv ha hn hdb he hpl) fun σ H Q ⟨F, τ, vs, ds, s, p⟩ => by
  refine ⟨F, τ, vs, ds, s, post_imp (post_bind p) (fun es τ1 q us F1 H1 hl s1 => ?_) fun _ _ q => q⟩
  obtain ⟨F2, sm, rl, s2⟩ := s1.freeze hl
  match h : freezeL es, q, rl with
  | [.lst b xs], q, rl =>
    obtain ⟨v, r, rfl, r1, r2⟩ := rl
    cases (show r = [] from r2)
    cases b with
    | true => exact r1.elim
    | false =>
      obtain ⟨a, ws, rfl, h1, h2⟩ := r1
      exact ⟨a, ws, rfl, .inl (sqOf (s2.same _ _ h1)), fun l hl => q _ _ _ ((s2.pushL h2).newLst h2.length hl)⟩
  | [.tup xs], q, rl =>
    obtain ⟨v, r, rfl, r1, r2⟩ := rl
    cases (show r = [] from r2)
    obtain ⟨a, ws, rfl, h1, h2⟩ := r1
    exact ⟨a, ws, rfl, .inr (sqT_same s2.same h1), fun l hl => q _ _ _ ((s2.pushL h2).newLst h2.length hl)⟩
end Bn

/-! Objects of own classes that never change once they are made; lists joined. -/
namespace Bn
open PySem PySem.Spec PyProof.Rows L2
theorem upd_upd {H : Hp} {a : Addr} {x y : HO} : upd (upd H a x) a y = upd H a y := by
  funext b
  by_cases h : b = a
  · subst h; rw [upd_same, upd_same]
  · rw [upd_ne h, upd_ne h, upd_ne h]
/-! ### __init__: one attribute after the other -/
def rdIn (K : PySem.W.Frag) (C : Addr) : List (Str × Nat) → TS
  | [] => fun D σ H => D.nx σ H
  | (f, i) :: r => fun D σ H => ∃ a dx fs y, σ[0]? = some (some (V.ref a)) ∧ σ[i]? = some (some y) ∧ H a = some (.ins C dx fs) ∧ NoAttr K C f ∧ fs.length < 1000 ∧ rdIn K C r D σ (upd H a (.ins C dx (putF f y fs)))
section
variable {X : Cx} {C : Addr}
theorem in_nil : PSs X [] (rdIn X.K C []) := PSs.imp pss_nil fun D σ H h => h
theorem in_cons {f : Str} {i : Nat} {o v : Expr} {pos pos' : Pos} {r : List Stmt} {as : List (Str × Nat)} (cl : Cls X.K C) (ho : PE X o (tVar 0)) (hv : PE X v (tVar i)) (hr : PSs X r (rdIn X.K C as)) (hs : swapsWith v (some (.Attribute o f pos')) pos.line X.env = pure false := by rfl) :
    PSs X (.Assign [.Attribute o f pos'] v pos :: r) (rdIn X.K C ((f, i) :: as)) := PSs.imp (pss_cons (ps_fld ho hv hs) hr) fun D σ H h => by
  obtain ⟨a, dx, fs, y, h1, h2, h3, h4, h5, h6⟩ := h
  exact ⟨y, h2, .ref a, h1, a, C, dx, fs, rfl, h3, cl, h4, h5, h6⟩
end
theorem putF_new (f : Str) (v : V) : ∀ fs : List (Str × V), f ∉ fs.map (·.1) → putF f v fs = fs ++ [(f, v)]
  | [], _ => rfl
  | (g, x) :: r, h => by
    have h1 : ¬ g = f := fun e => h (by rw [List.map_cons, e]; exact List.mem_cons_self)
    have h2 : f ∉ r.map (·.1) := fun e => h (by rw [List.map_cons]; exact List.mem_cons_of_mem _ e)
    show (if g = f then (g, v) :: r else (g, x) :: putF f v r) = _
    rw [if_neg h1, putF_new f v r h2]
    rfl
theorem in_run {K : PySem.W.Frag} {C : Addr} {D : Ends} {σ : L2.St} {a dx : Addr} (h0 : σ[0]? = some (some (V.ref a))) : ∀ (ns : List Str) (ws : List V) (k : Nat) (fs : List (Str × V)) (H : Hp), ws.length = ns.length → (∀ i w, ws[i]? = some w → σ[k + i]? = some (some w)) → (∀ n ∈ ns, NoAttr K C n) → (fs.map (·.1) ++ ns).Nodup →
    fs.length + ns.length < 1000 → H a = some (.ins C dx fs) → D.nx σ (upd H a (.ins C dx (fs ++ ns.zip ws))) → rdIn K C (ns.zip (List.range' k ns.length)) D σ H
  | [], ws, k, fs, H, hl, hv, hn, nd, sz, hH, q => by
    cases ws with
    | nil =>
      show D.nx σ H
      have e : upd H a (.ins C dx (fs ++ [])) = H := by
        funext b
        by_cases h : b = a
        · subst h; rw [upd_same, List.append_nil]; exact hH.symm
        · rw [upd_ne h]
      rw [← e]; exact q
    | cons _ _ => simp at hl
  | n :: ns, [], k, fs, H, hl, _, _, _, _, _, _ => by simp at hl
  | n :: ns, w :: ws, k, fs, H, hl, hv, hn, nd, sz, hH, q => by
    have nf : n ∉ fs.map (·.1) := fun h => by
      have := (List.nodup_append.mp nd).2.2 n h n List.mem_cons_self
      exact this rfl
    have e := putF_new n w fs nf
    refine ⟨a, dx, fs, w, h0, by simpa using hv 0 w rfl, hH, hn n List.mem_cons_self, by simp at sz; omega, ?_⟩
    rw [e]
    refine in_run h0 ns ws (k + 1) (fs ++ [(n, w)]) _ (by simpa using hl) (fun i y hy => ?_) (fun m hm => hn m (List.mem_cons_of_mem _ hm)) ?_ (by simp at sz ⊢; omega) upd_same ?_
    · have := hv (i + 1) y (by simpa using hy)
      rw [show k + 1 + i = k + (i + 1) by omega]; exact this
    · rw [List.map_append]
      simpa using nd
    · rw [upd_upd]
      simpa using q
def spI (ca : Str → Addr) (c : Str) (ns : List Str) : Sp := fun vs H Q _ => ∃ a dx ws, vs = .ref a :: ws ∧ ws.length = ns.length ∧ H a = some (.ins (ca c) dx []) ∧ Q .non (upd H a (.ins (ca c) dx (ns.zip ws)))
section
variable {P : Program} {w : World} {K : PySem.W.Frag} {mg : Str → Option Value} {base : Heap} {ca : Str → Addr}
theorem init_ok {x qual : Str} {st : Stmt} {f : Addr} {fd : FuncData} {ps : List Str} {c : Str} {ns : List Str} (F : Fun K x qual st f fd) (S : FnScope ps ps (defScope st)) (hps : ps.length = ns.length + 1) (nd : ns.Nodup) (hn : ∀ n ∈ ns, NoAttr K (ca c) n) (hl : ns.length < 1000)
    (hb : ∀ (cdv : Value) (A : Around) (outer : List PySem.Env) (s : Shared) (H : Hp) (E : XK), PSs (cxOf (L2.CX P w) P w K mg base ps qual (defScope st) f cdv A outer s H E) (defBody st) (rdIn K (ca c) (ns.zip (List.range' 1 ns.length)))) :
    FnOk P w K mg base (L2.CX P w) 1 f fd ps (spI ca c ns) := by
  refine F.okX S (fun vs H Q E h => ?_) (fun cdv A outer s H vs Q E hr h => ?_)
  · obtain ⟨a, dx, ws, rfl, h1, _⟩ := h
    rw [List.length_cons, h1, hps]
  · obtain ⟨a, dx, ws, rfl, h1, h2, q⟩ := h
    refine ⟨_, hb cdv A outer s H E, ?_⟩
    have hlen : ps.length - (V.ref a :: ws).length = 0 := by rw [List.length_cons, hps, h1]; omega
    have e0 : L2.start ps (V.ref a :: ws) = some (V.ref a) :: ws.map some := by
      unfold L2.start
      rw [hlen]; simp
    rw [e0]
    refine in_run (dx := dx) rfl ns ws 1 [] H h1 (fun i y hy => ?_) hn (by simpa using nd) (by simpa using hl) h2 ?_
    · rw [show 1 + i = i + 1 by omega, List.getElem?_cons_succ, List.getElem?_map, hy]; rfl
    · rw [List.nil_append]; exact q
/-- a class that can be made -/
structure MkO (P : Program) (w : World) (K : PySem.W.Frag) (mg : Str → Option Value) (base : Heap) (ca : Str → Addr) (x : Str) (ns : List Str) : Prop where
  ex : ∃ f fd ps, Mk K (ca x) f ∧ mg x = some (.ref (ca x)) ∧ Binds K fd ps [] ∧ FnOk P w K mg base (L2.CX P w) 1 f fd ps (spI ca x ns)
/-- a method -/
structure MFo (P : Program) (w : World) (K : PySem.W.Frag) (mg : Str → Option Value) (base : Heap) (ca : Str → Addr) (j : Nat) (c m : Str) (g : List D → CR) : Prop where
  ex : ∃ k f fd ps, k ≤ j ∧ Meth K (ca c) m f ∧ Binds K fd ps [] ∧ FnOk P w K mg base (L2.CX P w) k f fd ps (spP K ca g)
  cl : Cls K (ca c)
theorem MFo.mono {i j : Nat} {c m : Str} {g : List D → CR} (h : MFo P w K mg base ca i c m g) (k : i ≤ j) : MFo P w K mg base ca j c m g := by
  obtain ⟨⟨k', f, fd, ps, h1, h2⟩, cl⟩ := h
  exact ⟨⟨k', f, fd, ps, Nat.le_trans h1 k, h2⟩, cl⟩
def MAll (P : Program) (w : World) (K : PySem.W.Frag) (mg : Str → Option Value) (base : Heap) (ca : Str → Addr) (j : Nat) (m : Str) : List (Str × (List D → CR)) → Prop
  | [] => True
  | p :: r => MFo P w K mg base ca j p.1 m p.2 ∧ MAll P w K mg base ca j m r
theorem MAll.get {j : Nat} {m : Str} : ∀ {As : List (Str × (List D → CR))} {c : Str} {g : List D → CR}, MAll P w K mg base ca j m As → As.lookup c = some g → MFo P w K mg base ca j c m g
  | [], _, _, _, e => by cases e
  | (c', g') :: r, c, g, ⟨h1, h2⟩, e => by
    rw [List.lookup_cons] at e
    by_cases q : c = c'
    · subst q
      simp at e; subst e; exact h1
    · have q' : (c == c') = false := by simpa using q
      rw [q'] at e
      exact h2.get e
end
def eMake (c : Str) (ns : List Str) (m : MA) : ME := fun τ => (m τ).bind fun ds τ1 => if ds.length = ns.length then .ok (.obj false c ns (freezeL ds)) τ1 else .bad
section
variable {X : Cx} {B : Bx} {W : WX}
theorem e_make {x : Str} {p pos : Pos} {e : Expr} {es : List Expr} {m : MA} {ns : List Str} {j : Nat} (c : XOk X W) (G : MkO X.prog X.w X.K X.mg X.base B.ca x ns) (hr : Room j X.A) (hg : Gl X x) (ha : PA X (e :: es) (rdA X.K B W m)) (hk : 2 ≤ j := by decide) (hdb : (x == ("__debug__" : Str)) = false := by decide)
    (he : starEach (e :: es) X.env = (false, eval e X.env) :: starEach es X.env := by rfl) (hpl : (backTo pos (starEach es X.env)).any (·.1) = false := by rfl) : PE X (.Call (.Name x p) (e :: es) [] pos) (rdE X.K B W (eMake x ns m)) := by
  obtain ⟨f, fd, ps, M, hm, hb, F⟩ := G.ex
  refine PE.imp (pe_make M F (hr.mono hk) hg hm hb .nil passL ha hdb he hpl) fun σ H Q h => ?_
  obtain ⟨F, τ, vs, ds, s, p⟩ := h
  refine ⟨F, τ, vs, ds, s, post_imp (post_bind p) (fun as τ1 q us F1 H1 hl s1 => ?_) fun _ _ q => q⟩
  by_cases z : as.length = ns.length
  · rw [if_pos z] at q
    obtain ⟨F2, sm, rl, s2⟩ := s1.freeze hl
    intro y dx ny ndx ne
    refine ⟨y, dx, us, by rw [List.append_nil], hl.trans z, upd_same, rfl, ?_⟩
    rw [upd_upd]
    have s3 := s2.grown (same_upd (o := .own y) ndx)
    have hy : upd H1 dx (.own y) y = none := by rw [upd_ne (Ne.symm ne)]; exact ny
    obtain ⟨s4, sm2⟩ := s3.new (o := .ins (B.ca x) dx (ns.zip us)) hy
    exact q _ _ _ (s4.push ⟨y, dx, _, us, rfl, upd_same, rfl, (hl.trans z).symm, RepL.mono sm2 _ _ rl⟩)
  · rw [if_neg z] at q; exact q.elim
/-! ### attributes -/
def lookD (f : Str) : List Str → List D → Option D
  | n :: ns, x :: xs => if f = n then some x else lookD f ns xs
  | _, _ => none
def gFld (c f : Str) : D → Option D
  | .obj _ c' ns xs => if c' = c then lookD f ns xs else none
  | _ => none
theorem look_rep {K : PySem.W.Frag} {ca : Str → Addr} {F : Hp} {f : Str} {d : D} : ∀ {ns : List Str} {xs : List D} {vs : List V}, RepL K ca F xs vs → lookD f ns xs = some d → ∃ v, (ns.zip vs).lookup f = some v ∧ Rep K ca F d v
  | [], _, _, _, e => by cases e
  | _ :: _, [], _, _, e => by cases e
  | n :: ns, x :: xs, _, ⟨v, r, rfl, h1, h2⟩, e => by
    have e : (if f = n then some x else lookD f ns xs) = some d := e
    rw [List.zip_cons_cons, List.lookup_cons]
    by_cases q : f = n
    · rw [if_pos q] at e
      cases e
      have q' : (f == n) = true := by simpa using q
      rw [q']
      exact ⟨v, rfl, h1⟩
    · rw [if_neg q] at e
      have q' : (f == n) = false := by simpa using q
      rw [q']
      exact look_rep h2 e
theorem look_repO {K : PySem.W.Frag} {ca : Str → Addr} {F H : Hp} {f : Str} {d : D} : ∀ {ns : List Str} {xs : List D} {vs : List V} {g : Ct}, RepOs K ca F H xs vs g → lookD f ns xs = some d → ∃ v g', (ns.zip vs).lookup f = some v ∧ RepO K ca F H d v g'
  | [], _, _, _, _, e => by cases e
  | _ :: _, [], _, _, _, e => by cases e
  | n :: ns, x :: xs, _, _, ⟨v, r, f1, f2, rfl, h1, h2, _⟩, e => by
    have e : (if f = n then some x else lookD f ns xs) = some d := e
    rw [List.zip_cons_cons, List.lookup_cons]
    by_cases q : f = n
    · rw [if_pos q] at e
      cases e
      have q' : (f == n) = true := by simpa using q
      rw [q']
      exact ⟨v, f1, rfl, h1⟩
    · rw [if_neg q] at e
      have q' : (f == n) = false := by simpa using q
      rw [q']
      exact look_repO h2 e
theorem z_fld {e : Expr} {c f : Str} {pos : Pos} {m : MZ} (cl : Cls X.K (B.ca c)) (na : NoAttr X.K (B.ca c) f) (h : PE X e (rdZ X.K B m)) (hb : attributeBase e f X.env (eval e X.env) = eval e X.env := by rfl) : PE X (.Attribute e f pos) (rdZ X.K B (z1 (gFld c f) m)) := PE.imp (pe_fld h hb) fun σ H Q h => by
  obtain ⟨F, τ, vs, ds, s, d, e, k⟩ := h
  obtain ⟨a, ea, e3⟩ := bind_some e
  refine ⟨F, τ, vs, ds, s, a, ea, fun x f1 hx => ?_⟩
  cases a with
  | obj mm c' ns xs =>
    replace e3 : (if c' = c then lookD f ns xs else none) = some d := e3
    by_cases q : c' = c
    · rw [if_pos q] at e3
      subst q
      cases mm with
      | true =>
        obtain ⟨a, dx, fs, ws, g, rfl, h2, rfl, h4, h5, _⟩ := hx
        obtain ⟨v, g', l, r⟩ := look_repO h5 e3
        exact ⟨a, _, dx, _, v, rfl, h2, cl, na, l, k v _ r⟩
      | false =>
        obtain ⟨⟨a, dx, fs, ws, rfl, h2, rfl, h4, h5⟩, _⟩ := hx
        obtain ⟨v, l, r⟩ := look_rep h5 e3
        exact ⟨a, _, dx, _, v, rfl, s.same _ _ h2, cl, na, l, k v _ r.o⟩
    · rw [if_neg q] at e3; cases e3
  | _ => cases e3
/-! ### a method's call -/
def tMethX (C : Addr) (m : Str) (sp : Sp) (E : L2.St → XK) (ta : TE) (t : TA) : TE := fun σ H Q => ta σ H fun x H1 => ∃ a dx fs, x = .ref a ∧ H1 a = some (.ins C dx fs) ∧ fs.lookup m = none ∧ t σ H1 fun vs H2 => sp (x :: vs) H2 Q (E σ)
theorem pe_methX {CX : CXT} {k : Nat} {f C : Addr} {fd : FuncData} {ps : List Str} {sp : Sp} {E : L2.St → XK} {m : Str} {pos apos : Pos} {e o : Expr} {es : List Expr} {ta : TE} {t : TA} {pl : Sem Bool} (he : PE X o ta) (c : Cls X.K C) (hm : Meth X.K C m f) (F : FnOk X.prog X.w X.K X.mg X.base CX k f fd ps sp) (hr : Room k X.A) (hb : Binds X.K fd ps []) (hx : ∀ σ, PassesAt CX X σ (E σ)) (ha : PA X (e :: es) t)
    (hst : starEach (e :: es) X.env = (false, eval e X.env) :: starEach es X.env := by rfl) (hpl : (backTo pos (starEach es X.env)).any (·.1) = false := by rfl)
    (ht : eval (.Call (.Attribute o m apos) (e :: es) [] pos) X.env = (do
      let ov ← eval o X.env
      standAt apos.atName
      let (f, first) ← holding [ov] (getMethod ov m pl)
      callWith pos f first (backTo pos (starEach (e :: es) X.env)) (backToKw pos (keywordEach [] X.env))) := by rfl) :
    PE X (.Call (.Attribute o m apos) (e :: es) [] pos) (tMethX C m sp E ta t) := by
  refine ⟨fun pins s σ H Q I h => ?_⟩
  refine PySem.W.methodCall_KW (pl := pl) (thn (he.run pins s σ H _ I h) fun u s1 ⟨x, H1, I1, rx, a, dx, fs, ex, ea, l, q⟩ => ?_) ht
  subst ex
  obtain rfl : u = Value.ref a := rx
  refine getmeth_ok I1 ea c hm l ?_
  refine PySem.W.callWith_K (first := [.ref a]) (h₀ := X.base) I.ok.mod.kin hm.kp (thn (ha.run pos pins s1 σ H1 _ I1 q) fun us s2 ⟨vs, H2, I2, r, q2⟩ => ⟨I2.kIn, ?_⟩) hst hpl
  exact run_fnS (us := .ref a :: us) (vs := .ref a :: vs) F hr hb (hx σ) I2 (.cons rfl r) q2
/-- the classes that have it, each with its function -/
def eMeth (As : List (Str × (List D → CR))) (m : Str) (mo : ME) (ma : MA) : ME := fun τ => (mo τ).bind fun d τ1 => match d with
  | .obj false c ns xs => match As.lookup c with
    | some g => if ns.contains m = true then .bad else (ma τ1).bind fun ds τ2 => ofC (g (.obj false c ns xs :: freezeL ds)) τ2
    | none => .bad
  | _ => .bad
theorem lookup_zip_none {m : Str} : ∀ {ns : List Str} {vs : List V}, ns.contains m = false → (ns.zip vs).lookup m = none
  | [], _, _ => rfl
  | _ :: _, [], _ => rfl
  | n :: ns, v :: vs, h => by
    rw [List.contains_cons] at h
    obtain ⟨h1, h2⟩ := Bool.or_eq_false_iff.mp h
    rw [List.zip_cons_cons, List.lookup_cons, h1]
    exact lookup_zip_none h2
theorem e_meth {m : Str} {o e : Expr} {es : List Expr} {apos pos : Pos} {mo : ME} {ma : MA} {As : List (Str × (List D → CR))} {k : Nat} {pl : Sem Bool} (c : XOk X W) (hAs : MAll X.prog X.w X.K X.mg X.base B.ca k m As) (hr : Room k X.A) (ho : PE X o (rdE X.K B W mo)) (ha : PA X (e :: es) (rdA X.K B W ma)) (hne : As ≠ [] := by exact fun z => nomatch z)
    (hst : starEach (e :: es) X.env = (false, eval e X.env) :: starEach es X.env := by rfl) (hpl : (backTo pos (starEach es X.env)).any (·.1) = false := by rfl)
    (ht : eval (.Call (.Attribute o m apos) (e :: es) [] pos) X.env = (do
      let ov ← eval o X.env
      standAt apos.atName
      let (f, first) ← holding [ov] (getMethod ov m pl)
      callWith pos f first (backTo pos (starEach (e :: es) X.env)) (backToKw pos (keywordEach [] X.env))) := by rfl) :
    PE X (.Call (.Attribute o m apos) (e :: es) [] pos) (rdE X.K B W (eMeth As m mo ma)) := by
  refine ⟨fun pins s σ H Q I h => ?_⟩
  obtain ⟨F, τ, vs, ds, st, p⟩ := h
  unfold eMeth at p
  cases em : mo τ with
  | bad => rw [em] at p; exact p.elim
  | ex y τ1 =>
    cases As with
    | nil => exact absurd rfl hne
    | cons p0 r0 =>
      obtain ⟨⟨k', f, fd, ps, hk, hm, hb, G⟩, cl⟩ := hAs.1
      refine (pe_methX (pl := pl) ho cl hm G (hr.mono hk) hb (fun σ => passAt c.tk σ) ha hst hpl ht).run pins s σ H Q I ⟨F, τ, vs, ds, st, ?_⟩
      rw [em] at p ⊢
      exact p
  | ok d τ1 =>
    rw [em] at p
    cases d with
    | obj mm cc ns xs =>
      cases mm with
      | true => exact p.elim
      | false =>
        cases eg : As.lookup cc with
        | none => replace p : post _ _ (match As.lookup cc with | some g => if ns.contains m = true then R.bad else (ma τ1).bind fun ds τ2 => ofC (g (.obj false cc ns xs :: freezeL ds)) τ2 | none => R.bad) := p; rw [eg] at p; exact p.elim
        | some g =>
          replace p : post _ _ (match As.lookup cc with | some g => if ns.contains m = true then R.bad else (ma τ1).bind fun ds τ2 => ofC (g (.obj false cc ns xs :: freezeL ds)) τ2 | none => R.bad) := p
          rw [eg] at p
          by_cases nc : ns.contains m = true
          · replace p : post _ _ (if ns.contains m = true then R.bad else (ma τ1).bind fun ds τ2 => ofC (g (.obj false cc ns xs :: freezeL ds)) τ2) := p
            rw [if_pos nc] at p; exact p.elim
          · replace p : post _ _ (if ns.contains m = true then R.bad else (ma τ1).bind fun ds τ2 => ofC (g (.obj false cc ns xs :: freezeL ds)) τ2) := p
            rw [if_neg nc] at p
            obtain ⟨⟨k', f, fd, ps, hk, hm, hb, G⟩, cl⟩ := hAs.get eg
            refine (pe_methX (pl := pl) ho cl hm G (hr.mono hk) hb (fun σ => passAt c.tk σ) ha hst hpl ht).run pins s σ H Q I ⟨F, τ, vs, ds, st, ?_⟩
            rw [em]
            intro v F1 H1 s1
            obtain ⟨a, dx, fs, ws, rfl, h2, rfl, h4, h5⟩ := s1.topF rfl
            refine ⟨a, dx, _, rfl, s1.same _ _ h2, lookup_zip_none (by simpa using nc), F1, τ1, _, _, s1, post_imp (post_bind p) (fun as τ2 q us F2 H2 hl s2 => ?_) fun y τ2 q F2 H2 s2 => q F2 H2 s2.pop⟩
            obtain ⟨F3, sm, rl, s3⟩ := s2.freeze hl
            have rep := s3.topF rfl
            have s4 := s3.pop
            refine ⟨F3, .obj false cc ns xs :: freezeL as, s3.same, ⟨.ref a, us, rfl, rep, rl⟩, ?_⟩
            cases eq : g (.obj false cc ns xs :: freezeL as) with
            | ok d => rw [eq] at q; exact fun v F' H' f k1 k2 k3 k4 k5 k6 k7 => q v F' H' (s4.called k1 k2 k3 k4 k5 k6 k7)
            | ex y => rw [eq] at q; exact fun H' k1 => q F3 H' (s4.grown k1)
            | bad => rw [eq] at q; exact q
    | _ => exact p.elim
/-! ### isinstance of an own class -/
structure IsO (K : PySem.W.Frag) (C A : Addr) (b : Bool) : Prop where
  cl : Cls K C
  ha : PySem.W.findIn K (.ref C) "__class__" = some (some (.builtin "object.__class__"))
  hn : PySem.W.specialIn K (.builtin "object.__class__") "__get__" = some (some (.builtin "getset_descriptor.__get__"))
  htk : PySem.W.takesIn K (.builtin "object.__class__") = some true
  hm : PySem.W.mroIn K C (.type "object") = some true
  ko : PySem.W.kitOne K (.ref C) (.ref A) = some b
def zIsO (tbl : Str → Option Bool) (m : MZ) : MZ := fun τ => (m τ).bind fun d => match d with
  | .obj _ c _ _ => (tbl c).map D.bl
  | _ => none
theorem z_isO {A : Str} {aA : Addr} {e : Expr} {p p2 pos : Pos} {m : MZ} {tbl : Str → Option Bool} (hA : X.mg A = some (.ref aA)) (hI : ∀ c b, tbl c = some b → IsO X.K (B.ca c) aA b) (hg : Gl X "isinstance") (hgA : Gl X A) (hm : X.mg "isinstance" = none) (h : PE X e (rdZ X.K B m)) (hdb : (A == ("__debug__" : Str)) = false := by decide)
    (hs1 : starEach [e, .Name A p2] X.env = (false, eval e X.env) :: starEach [.Name A p2] X.env := by rfl) (hs2 : starEach [.Name A p2] X.env = (false, eval (.Name A p2) X.env) :: starEach [] X.env := by rfl) (hpl : (backTo pos (starEach [.Name A p2] X.env)).any (·.1) = false := by rfl) :
    PE X (.Call (.Name "isinstance" p) [e, .Name A p2] [] pos) (rdZ X.K B (zIsO tbl m)) := by
  have hAe : PE X (.Name A p2) (tC (.ref aA)) := pe_glob hgA hA rfl hdb
  refine PE.imp (pe_callB call_isi hg hm (by decide +kernel) (pa_cons h (pa_cons hAe pa_nil hs2) hs1) (by decide) (by decide) hs1 hpl) fun σ H Q h => ?_
  obtain ⟨F, τ, vs, ds, s, d, e, k⟩ := h
  obtain ⟨a, ea, e⟩ := bind_some e
  refine ⟨F, τ, vs, ds, s, a, ea, fun x f1 hx => ?_⟩
  cases a with
  | obj mm c' ns xs =>
    cases et : tbl c' with
    | none => simp only [et] at e; cases e
    | some b =>
      simp only [et] at e
      cases e
      have J := hI c' b et
      have hx' : ∃ a dx fs, x = .ref a ∧ H a = some (.ins (B.ca c') dx fs) := by
        cases mm with
        | true => obtain ⟨a, dx, fs, ws, g, h1, h2, _⟩ := hx; exact ⟨a, dx, fs, h1, h2⟩
        | false => obtain ⟨⟨a, dx, fs, ws, h1, h2, _⟩, _⟩ := hx; exact ⟨a, dx, fs, h1, s.same _ _ h2⟩
      obtain ⟨a, dx, fs, rfl, h2⟩ := hx'
      exact ⟨.ref a, .ref aA, .ref (B.ca c'), .ref aA, b, rfl, .own aA, .base (.ins h2 J.cl J.ha J.hn J.htk J.hm), J.ko, k (.bl b) _ (Rep.o (d := .bl b) rfl)⟩
  | _ => cases e
/-! ### lists joined -/
theorem RepL.append {K : PySem.W.Frag} {ca : Str → Addr} {F : Hp} : ∀ {xs ys : List D} {us vs : List V}, RepL K ca F xs us → RepL K ca F ys vs → RepL K ca F (xs ++ ys) (us ++ vs)
  | [], _, _, _, h, k => by cases (show _ = [] from h); exact k
  | x :: xs, ys, _, vs, ⟨v, r, e, h1, h2⟩, k => by subst e; exact ⟨v, r ++ vs, rfl, h1, h2.append k⟩
def catD : D → D → Option D
  | .lst false xs, .lst false ys => if xs.length + ys.length ≤ 1000000 then some (.lst true (xs ++ ys)) else none
  | _, _ => none
def slE' (o : Option D) (τ : Env) : R D := match o with
  | some x => .ok x τ | none => .bad
def eCat (a b : ME) : ME := fun τ => (a τ).bind fun x τ1 => (b τ1).bind fun y τ2 => slE' (catD (freeze x) (freeze y)) τ2
theorem e_cat {a b : Expr} {pos : Pos} {m n : ME} (ha : PE X a (rdE X.K B W m)) (hb : PE X b (rdE X.K B W n)) : PE X (.BinOp a .Add b pos) (rdE X.K B W (eCat m n)) := PE.imp (pe_op op_cat ha hb) fun σ H Q h => by
  obtain ⟨F, τ, vs, ds, s, p⟩ := h
  refine ⟨F, τ, vs, ds, s, post_imp (post_bind p) (fun x τ1 q v F1 H1 s1 => ⟨F1, τ1, _, _, s1, post_imp (post_bind q) (fun y τ2 q w F2 H2 s2 => ?_) fun c τ2 q F2 H2 s2 => q F2 H2 s2.pop⟩) fun _ _ q => q⟩
  obtain ⟨F3, sm, ⟨w', r', e1, r1, ⟨v', r'', e2, r2, _⟩⟩, s3⟩ := StT.freeze (us := [w, v]) (es := [y, x]) s2 rfl
  cases e1; cases e2
  cases ex : freeze x with
  | lst m1 xs =>
    cases ey : freeze y with
    | lst m2 ys =>
      rw [ex, ey] at q
      rw [ex] at r2; rw [ey] at r1
      cases m1 with
      | true => exact q.elim
      | false =>
        cases m2 with
        | true => exact q.elim
        | false =>
          replace q : post _ _ (slE' (if xs.length + ys.length ≤ 1000000 then some (.lst true (xs ++ ys)) else none) τ2) := q
          by_cases z : xs.length + ys.length ≤ 1000000
          · rw [if_pos z] at q
            obtain ⟨a1, us1, rfl, k1, k2⟩ := r2
            obtain ⟨a2, us2, rfl, l1, l2⟩ := r1
            refine ⟨a1, a2, us1, us2, rfl, rfl, s3.same _ _ k1, s3.same _ _ l1, ?_, fun p hp => ?_⟩
            · have h1 := k2.length
              have h2 := l2.length
              exact le_sizeLine (by omega)
            · have k3 := RepL.append k2 l2
              exact q _ _ _ ((s3.pushL k3).newLst k3.length hp)
          · rw [if_neg z] at q; exact q.elim
    | _ => rw [ex, ey] at q; cases xs <;> first | exact q.elim | (revert q; cases m1 <;> exact fun q => q.elim)
  | _ => rw [ex] at q; exact q.elim
end
end Bn

/-! A list lent to a call; an item set anew; `in` over lists of data. -/
namespace Bn
open PySem PySem.Spec PyProof.Rows L2
mutual
/-- holds nothing that could be a list or an object handed in -/
def clean : D → Bool
  | .non => true | .bl _ => true | .int _ => true | .str _ => true | .ty _ => true
  | .tup xs => cleanL xs
  | .lst m xs => m && cleanL xs
  | .cst _ => false
  | .obj m _ _ xs => m && cleanL xs
def cleanL : List D → Bool
  | [] => true
  | x :: xs => clean x && cleanL xs
end
section
variable {K : PySem.W.Frag} {ca : Str → Addr} {F F' H H' : Hp}
mutual
theorem Rep.back (k : ∀ a xs, SqT K F a xs → SqT K F' a xs) : ∀ (d : D) (v : V), clean d = true → Rep K ca F d v → Rep K ca F' d v
  | .non, _, _, h => h
  | .bl _, _, _, h => h
  | .int _, _, _, h => h
  | .str _, _, _, h => h
  | .ty _, _, _, h => h
  | .tup ds, v, c, h => by
    obtain ⟨a, vs, h1, h2, h3⟩ := h
    exact ⟨a, vs, h1, k a vs h2, RepL.back k ds vs c h3⟩
  | .lst true _, _, _, h => h.elim
  | .lst false xs, _, c, _ => by cases (show (false && cleanL xs) = true from c)
  | .cst _, _, c, _ => by cases (show false = true from c)
  | .obj true _ _ _, _, _, h => h.elim
  | .obj false _ _ xs, _, c, _ => by cases (show (false && cleanL xs) = true from c)
theorem RepL.back (k : ∀ a xs, SqT K F a xs → SqT K F' a xs) : ∀ (ds : List D) (vs : List V), cleanL ds = true → RepL K ca F ds vs → RepL K ca F' ds vs
  | [], _, _, h => h
  | d :: ds, _, c, ⟨v, r, e, h1, h2⟩ => by
    have c' : (clean d && cleanL ds) = true := c
    rw [Bool.and_eq_true] at c'
    exact ⟨v, r, e, Rep.back k d v c'.1 h1, RepL.back k ds r c'.2 h2⟩
end
mutual
theorem RepO.back (k : ∀ a xs, SqT K F a xs → SqT K F' a xs) : ∀ (d : D) (v : V) (f : Ct), clean d = true → RepO K ca F H d v f → RepO K ca F' H d v f
  | .lst true ds, v, f, c, h => by
    obtain ⟨a, vs, g, h1, h2, h3, h4⟩ := h
    exact ⟨a, vs, g, h1, h2, RepOs.back k ds vs g (by have c' : (true && cleanL ds) = true := c; simpa using c') h3, h4⟩
  | .obj true _ ns ds, v, f, c, h => by
    obtain ⟨a, dx, fs, vs, g, h1, h2, h2', h2'', h3, h4⟩ := h
    exact ⟨a, dx, fs, vs, g, h1, h2, h2', h2'', RepOs.back k ds vs g (by have c' : (true && cleanL ds) = true := c; simpa using c') h3, h4⟩
  | .lst false _, v, f, c, h => ⟨Rep.back k _ v c h.1, h.2⟩
  | .obj false _ _ _, v, f, c, h => ⟨Rep.back k _ v c h.1, h.2⟩
  | .non, v, f, c, h => ⟨Rep.back k _ v c h.1, h.2⟩
  | .bl _, v, f, c, h => ⟨Rep.back k _ v c h.1, h.2⟩
  | .int _, v, f, c, h => ⟨Rep.back k _ v c h.1, h.2⟩
  | .str _, v, f, c, h => ⟨Rep.back k _ v c h.1, h.2⟩
  | .ty _, v, f, c, h => ⟨Rep.back k _ v c h.1, h.2⟩
  | .tup _, v, f, c, h => ⟨Rep.back k _ v c h.1, h.2⟩
  | .cst _, v, f, c, h => ⟨Rep.back k _ v c h.1, h.2⟩
theorem RepOs.back (k : ∀ a xs, SqT K F a xs → SqT K F' a xs) : ∀ (ds : List D) (vs : List V) (f : Ct), cleanL ds = true → RepOs K ca F H ds vs f → RepOs K ca F' H ds vs f
  | [], _, _, _, h => h
  | d :: ds, _, f, c, ⟨v, r, f1, f2, e, h1, h2, h3⟩ => by
    have c' : (clean d && cleanL ds) = true := c
    rw [Bool.and_eq_true] at c'
    exact ⟨v, r, f1, f2, e, RepO.back k d v f1 c'.1 h1, RepOs.back k ds r f2 c'.2 h2, h3⟩
end
/-- what is owned is a list or an object -/
def LsIn (H : Hp) (a : Addr) : Prop := (∃ xs, H a = some (.lst xs)) ∨ ∃ c dx fs, H a = some (.ins c dx fs)
mutual
theorem RepO.kind : ∀ (d : D) (v : V) (f : Ct), RepO K ca F H d v f → ∀ a, 0 < f a → LsIn H a
  | .lst true ds, v, f, h, b, hb => by
    obtain ⟨a, vs, g, h1, h2, h3, h4⟩ := h
    by_cases e : b = a
    · subst e; exact .inl ⟨_, h2⟩
    · exact RepOs.kind ds vs g h3 b (by rw [h4, if_neg e] at hb; omega)
  | .obj true _ ns ds, v, f, h, b, hb => by
    obtain ⟨a, dx, fs, vs, g, h1, h2, h2', h2'', h3, h4⟩ := h
    by_cases e : b = a
    · subst e; exact .inr ⟨_, _, _, h2⟩
    · exact RepOs.kind ds vs g h3 b (by rw [h4, if_neg e] at hb; omega)
  | .lst false _, v, f, h, b, hb => by rw [h.2] at hb; omega
  | .obj false _ _ _, v, f, h, b, hb => by rw [h.2] at hb; omega
  | .non, v, f, h, b, hb => by rw [h.2] at hb; omega
  | .bl _, v, f, h, b, hb => by rw [h.2] at hb; omega
  | .int _, v, f, h, b, hb => by rw [h.2] at hb; omega
  | .str _, v, f, h, b, hb => by rw [h.2] at hb; omega
  | .ty _, v, f, h, b, hb => by rw [h.2] at hb; omega
  | .tup _, v, f, h, b, hb => by rw [h.2] at hb; omega
  | .cst _, v, f, h, b, hb => by rw [h.2] at hb; omega
theorem RepOs.kind : ∀ (ds : List D) (vs : List V) (f : Ct), RepOs K ca F H ds vs f → ∀ a, 0 < f a → LsIn H a
  | [], _, _, h, b, hb => by rw [h.2] at hb; omega
  | d :: ds, _, f, ⟨v, r, f1, f2, e, h1, h2, h3⟩, b, hb => by
    rw [h3] at hb
    by_cases q : 0 < f1 b
    · exact RepO.kind d v f1 h1 b q
    · exact RepOs.kind ds r f2 h2 b (by omega)
end
/-- the unchanging part while a call runs that is lent what f counts -/
def lend (F H : Hp) (f : Ct) : Hp := fun b => match F b with
  | some o => some o
  | none => if 0 < f b then H b else none
theorem lend_same (F H : Hp) (f : Ct) : Same F (lend F H f) := fun b x e => by
  unfold lend; rw [e]
theorem lend_sub (sm : Same F H) (f : Ct) : Same (lend F H f) H := fun b x e => by
  unfold lend at e
  cases q : F b with
  | some o => rw [q] at e; cases e; exact sm _ _ q
  | none =>
    rw [q] at e
    replace e : (if 0 < f b then H b else none) = some x := e
    by_cases z : 0 < f b
    · rw [if_pos z] at e; exact e
    · rw [if_neg z] at e; cases e
theorem lend_at (sm : Same F H) {f : Ct} {b : Addr} (h : 0 < f b) : lend F H f b = H b := by
  unfold lend
  cases q : F b with
  | some o => exact (sm _ _ q).symm
  | none => exact if_pos h
end
section
variable {K : PySem.W.Frag} {B : Bx} {F H : Hp} {σ : L2.St} {τ : Env} {vs us : List V} {ds es : List D} {v : V} {d : D} {f : Ct}
theorem lend_rep (s : StT K B F H σ τ vs ds) (r : RepOs K B.ca F H es us f) : RepL K B.ca (lend F H f) (freezeL es) us :=
  RepOs.fz (lend_same F H f) _ _ _ (fun _ h => lend_at s.same h) r
/-- behind a call that was lent something: all is as it was -/
theorem StT.lent {F' H' : Hp} {g : Ct} (s : StT K B F H σ τ vs ds) (r : RepOs K B.ca F H es us f) (h1 : Same (lend F H f) F') (h2 : Same F' H') (h3 : Same H H') (hv : RepO K B.ca F' H' d v g) (h4 : ∀ a, g a ≤ 1) (h5 : ∀ a, 0 < g a → F' a = none ∧ H a = none)
    (h6 : ∀ a, F' a ≠ none → lend F H f a ≠ none ∨ H a = none) (hc : clean d = true) : ∃ F2, StT K B F2 H' σ τ (v :: vs) (d :: ds) := by
  classical
  have sm := lend_same F H f
  refine ⟨fun b => if F b = none ∧ 0 < f b then none else F' b, s.called (g := g) (fun b x e => ?_) (fun b x e => ?_) h3 (hv.back (fun a xs q => ?_) _ _ _ hc) h4 (fun a q => ⟨?_, (h5 a q).2⟩) fun a q => ?_⟩
  · show (if F b = none ∧ 0 < f b then none else F' b) = some x
    rw [if_neg (fun z => by rw [z.1] at e; cases e)]
    exact h1 _ _ (sm _ _ e)
  · replace e : (if F b = none ∧ 0 < f b then none else F' b) = some x := e
    split at e
    · cases e
    · exact h2 _ _ e
  · rcases q with q | q
    · refine .inl ?_
      have key : ∀ o, F' a = some o → (∀ ys, o ≠ .lst ys) → (∀ c dx fs, o ≠ .ins c dx fs) → (fun b => if F b = none ∧ 0 < f b then none else F' b) a = some o := fun o ho n1 n2 => by
        show (if F a = none ∧ 0 < f a then none else F' a) = some o
        rw [if_neg (fun z => ?_)]
        · exact ho
        · have e := h1 a
          rw [lend_at s.same z.2] at e
          rcases RepOs.kind _ _ _ r a z.2 with ⟨ys, hk⟩ | ⟨c, dx, fs, hk⟩
          · have := e _ hk
            rw [ho] at this
            cases this
            exact n1 _ rfl
          · have := e _ hk
            rw [ho] at this
            cases this
            exact n2 _ _ _ rfl
      rcases q with q | ⟨o, q⟩
      · exact .inl (key _ q (fun _ z => by cases z) (fun _ _ _ z => by cases z))
      · exact .inr ⟨o, key _ q (fun _ z => by cases z) (fun _ _ _ z => by cases z)⟩
    · exact .inr q
  · show (if F a = none ∧ 0 < f a then none else F' a) = none
    split
    · rfl
    · exact (h5 a q).1
  · replace q : (if F a = none ∧ 0 < f a then none else F' a) ≠ none := q
    by_cases z : F a = none ∧ 0 < f a
    · rw [if_pos z] at q; exact absurd rfl q
    · rw [if_neg z] at q
      rcases h6 a q with k | k
      · refine .inl fun e => ?_
        unfold lend at k
        rw [e] at k
        replace k : (if 0 < f a then H a else none) ≠ none := k
        rw [if_neg (fun y => z ⟨e, y⟩)] at k
        exact k rfl
      · exact .inr k
end
def lendR (r : CR) (τ : Env) : R D := match r with
  | .ok d => if clean d = true then .ok d τ else .bad
  | .ex c => .ex c τ
  | .bad => .bad
def eCallZ (g : List D → CR) (m : Env → Option (List D)) : ME := fun τ => match m τ with
  | some ds => lendR (g (freezeL ds)) τ
  | none => .bad
section
variable {X : Cx} {B : Bx} {W : WX}
theorem lend_sp {g : List D → CR} {F H : Hp} {σ : L2.St} {τ : Env} {vs us : List V} {ds es : List D} {f : Ct} {Q : VK} (s : StT X.K B F H σ τ vs ds) (r : RepOs X.K B.ca F H es us f) {pre : List D} {prv : List V} (hp : RepL X.K B.ca F pre prv)
    (p : post (fun d τ' => ∀ v F' H', StT X.K B F' H' σ τ' (v :: vs) (d :: ds) → Q v H') (exW X.K B W σ vs ds) (lendR (g (pre ++ freezeL es)) τ)) : spP X.K B.ca g (prv ++ us) H Q (W · · σ ·) := by
  refine ⟨lend F H f, pre ++ freezeL es, lend_sub s.same f, (RepL.mono (lend_same F H f) _ _ hp).append (lend_rep s r), ?_⟩
  unfold lendR at p
  cases eg : g (pre ++ freezeL es) with
  | ok d =>
    rw [eg] at p
    replace p : post _ _ (if clean d = true then R.ok d τ else R.bad) := p
    by_cases z : clean d = true
    · rw [if_pos z] at p
      intro v F' H' f' k1 k2 k3 k4 k5 k6 k7
      obtain ⟨F2, s2⟩ := s.lent r k1 k2 k3 k4 k5 k6 k7 z
      exact p v F2 H' s2
    · rw [if_neg z] at p; exact p.elim
  | ex c => rw [eg] at p; exact fun H' k1 => p F H' (s.grown k1)
  | bad => rw [eg] at p; exact p
theorem e_callZ {x : Str} {p pos : Pos} {e : Expr} {es : List Expr} {m : Env → Option (List D)} {g : List D → CR} {k j : Nat} (c : XOk X W) (G : Fo X.prog X.w X.K X.mg X.base B.ca k x g) (hr : Room j X.A) (hg : Gl X x) (ha : PA X (e :: es) (rdZA X.K B m)) (hk : k ≤ j := by decide) (hdb : (x == ("__debug__" : Str)) = false := by decide)
    (he : starEach (e :: es) X.env = (false, eval e X.env) :: starEach es X.env := by rfl) (hpl : (backTo pos (starEach es X.env)).any (·.1) = false := by rfl) : PE X (.Call (.Name x p) (e :: es) [] pos) (rdE X.K B W (eCallZ g m)) := by
  obtain ⟨f, fd, ps, h1, h2, h3, h4⟩ := G.ex
  refine PE.imp (pe_callS h4 (hr.mono hk) hg h1 h2 h3 (fun σ => passAt c.tk σ) ha hdb he hpl) fun σ H Q h => ?_
  obtain ⟨F, τ, vs, ds, s, p⟩ := h
  unfold eCallZ at p
  cases em : m τ with
  | none => rw [em] at p; exact p.elim
  | some as =>
    rw [em] at p
    exact ⟨F, τ, vs, ds, s, as, em, fun us f r => lend_sp s r (pre := []) (prv := []) rfl p⟩
def eMethZ (As : List (Str × (List D → CR))) (m : Str) (mo : ME) (ma : Env → Option (List D)) : ME := fun τ => (mo τ).bind fun d τ1 => match d with
  | .obj false c ns xs => match As.lookup c with
    | some g => if ns.contains m = true then .bad else (match ma τ1 with
      | some ds => lendR (g (.obj false c ns xs :: freezeL ds)) τ1
      | none => .bad)
    | none => .bad
  | _ => .bad
theorem e_methZ {m : Str} {o e : Expr} {es : List Expr} {apos pos : Pos} {mo : ME} {ma : Env → Option (List D)} {As : List (Str × (List D → CR))} {k : Nat} {pl : Sem Bool} (c : XOk X W) (hAs : MAll X.prog X.w X.K X.mg X.base B.ca k m As) (hr : Room k X.A) (ho : PE X o (rdE X.K B W mo)) (ha : PA X (e :: es) (rdZA X.K B ma)) (hne : As ≠ [] := by exact fun z => nomatch z)
    (hst : starEach (e :: es) X.env = (false, eval e X.env) :: starEach es X.env := by rfl) (hpl : (backTo pos (starEach es X.env)).any (·.1) = false := by rfl)
    (ht : eval (.Call (.Attribute o m apos) (e :: es) [] pos) X.env = (do
      let ov ← eval o X.env
      standAt apos.atName
      let (f, first) ← holding [ov] (getMethod ov m pl)
      callWith pos f first (backTo pos (starEach (e :: es) X.env)) (backToKw pos (keywordEach [] X.env))) := by rfl) :
    PE X (.Call (.Attribute o m apos) (e :: es) [] pos) (rdE X.K B W (eMethZ As m mo ma)) := by
  refine ⟨fun pins s σ H Q I h => ?_⟩
  obtain ⟨F, τ, vs, ds, st, p⟩ := h
  unfold eMethZ at p
  cases em : mo τ with
  | bad => rw [em] at p; exact p.elim
  | ex y τ1 =>
    cases As with
    | nil => exact absurd rfl hne
    | cons p0 r0 =>
      obtain ⟨⟨k', f, fd, ps, hk, hm, hb, G⟩, cl⟩ := hAs.1
      refine (pe_methX (pl := pl) ho cl hm G (hr.mono hk) hb (fun σ => passAt c.tk σ) ha hst hpl ht).run pins s σ H Q I ⟨F, τ, vs, ds, st, ?_⟩
      rw [em] at p ⊢
      exact p
  | ok d τ1 =>
    rw [em] at p
    cases d with
    | obj mm cc ns xs =>
      cases mm with
      | true => exact p.elim
      | false =>
        replace p : post _ _ (match As.lookup cc with | some g => if ns.contains m = true then R.bad else (match ma τ1 with | some ds => lendR (g (.obj false cc ns xs :: freezeL ds)) τ1 | none => R.bad) | none => R.bad) := p
        cases eg : As.lookup cc with
        | none => rw [eg] at p; exact p.elim
        | some g =>
          rw [eg] at p
          by_cases nc : ns.contains m = true
          · replace p : post _ _ (if ns.contains m = true then R.bad else (match ma τ1 with | some ds => lendR (g (.obj false cc ns xs :: freezeL ds)) τ1 | none => R.bad)) := p
            rw [if_pos nc] at p; exact p.elim
          · replace p : post _ _ (if ns.contains m = true then R.bad else (match ma τ1 with | some ds => lendR (g (.obj false cc ns xs :: freezeL ds)) τ1 | none => R.bad)) := p
            rw [if_neg nc] at p
            cases ea : ma τ1 with
            | none => rw [ea] at p; exact p.elim
            | some as =>
              rw [ea] at p
              obtain ⟨⟨k', f, fd, ps, hk, hm, hb, G⟩, cl⟩ := hAs.get eg
              refine (pe_methX (pl := pl) ho cl hm G (hr.mono hk) hb (fun σ => passAt c.tk σ) ha hst hpl ht).run pins s σ H Q I ⟨F, τ, vs, ds, st, ?_⟩
              rw [em]
              intro v F1 H1 s1
              have rep := s1.topF rfl
              obtain ⟨a, dx, fs, ws, rfl, h2, rfl, h4, h5⟩ := rep
              have rep := s1.topF rfl
              refine ⟨a, dx, _, rfl, s1.same _ _ h2, lookup_zip_none (by simpa using nc), F1, τ1, _, _, s1, as, ea, fun us f r => ?_⟩
              exact lend_sp s1.pop r (pre := [.obj false cc ns xs]) (prv := [.ref a]) ⟨.ref a, [], rfl, rep, rfl⟩ p
    | _ => exact p.elim
/-! ### an item set anew -/
theorem RepOs.set {K : PySem.W.Frag} {ca : Str → Addr} {F H : Hp} {d : D} {v : V} {g2 : Ct} (hv : RepO K ca F H d v g2) : ∀ {ds : List D} {vs : List V} {f : Ct} (j : Nat), RepOs K ca F H ds vs f → ∃ g, RepOs K ca F H (ds.set j d) (vs.set j v) g ∧ ∀ b, g b ≤ f b + g2 b
  | [], vs, f, j, h => by
    cases (show vs = [] from h.1)
    exact ⟨f, h, fun b => by omega⟩
  | x :: ds, _, f, 0, ⟨w, r, f1, f2, e, h1, h2, h3⟩ => by
    subst e
    exact ⟨fun b => g2 b + f2 b, ⟨v, r, g2, f2, rfl, hv, h2, fun _ => rfl⟩, fun b => by show g2 b + f2 b ≤ f b + g2 b; rw [h3]; omega⟩
  | x :: ds, _, f, j + 1, ⟨w, r, f1, f2, e, h1, h2, h3⟩ => by
    subst e
    obtain ⟨g, k1, k2⟩ := RepOs.set hv j h2
    exact ⟨fun b => f1 b + g b, ⟨w, r.set j v, f1, g, rfl, h1, k1, fun _ => rfl⟩, fun b => by show f1 b + g b ≤ f b + g2 b; have := k2 b; rw [h3]; omega⟩
def setD (es : List D) (k : Int) (d : D) : Option (List D) := (ixN es.length k).map fun j => es.set j d
def sSetIx (i : Nat) (mi : MZ) (m : ME) : MS := fun τ => (m τ).s fun d τ1 => match τ1.getD i none with
  | some (.lst true es) => (match mi τ1 with
    | some (.int k) => (match setD es k d with
      | some es' => .nx (τ1.set i (some (.lst true es')))
      | none => .bad)
    | _ => .bad)
  | _ => .bad
theorem s_setIx {i : Nat} {o ix e : Expr} {pos pos' : Pos} {mi : MZ} {m : ME} (ho : PE X o (tVar i)) (hi : PE X ix (rdZ X.K B mi)) (he : PE X e (rdE X.K B W m)) (hs : swapsWithSole [.Subscript o ix pos'] e pos.line X.env = pure false := by rfl) (hw : swappedStores [.Subscript o ix pos'] e X.env = pure none := by rfl)
    (h1 : (assignEach [.Subscript o ix pos'] X.env).map (·.2) = [assign (.Subscript o ix pos') X.env] := by rfl)
    (ha : ∀ v, assign (.Subscript o ix pos') X.env v = (do
      let ov ← holding [v] (eval o X.env)
      let iv ← holding [v, ov] (eval ix X.env)
      standAt pos'
      holding [v, ov, iv] (setItem ov iv v)
      release [v, ov, iv] []) := by intro _; rfl) : PS X (.Assign [.Subscript o ix pos'] e pos) (rdS X.K B W (sSetIx i mi m)) :=
  PS.imp (ps_asg he (pg_sub ho hi set_list ha) hs hw h1) fun D σ H ⟨F, τ, vs, ds, s, p⟩ => by
    refine ⟨F, τ, vs, ds, s, post_imp (post_s (σ := σ) p) (fun d τ1 q y F1 H1 s1 => ?_) fun _ _ q => q⟩
    cases e1 : τ1.getD i none with
    | none => rw [e1] at q; exact q.elim
    | some dl =>
      rw [e1] at q
      cases dl with
      | lst mm es =>
        cases mm with
        | false => exact q.elim
        | true =>
          replace q : postS X.K B W vs ds D (match mi τ1 with | some (.int k) => (match setD es k d with | some es' => SR.nx (τ1.set i (some (.lst true es'))) | none => SR.bad) | _ => SR.bad) := q
          cases e2 : mi τ1 with
          | none => rw [e2] at q; exact q.elim
          | some dk =>
            rw [e2] at q
            cases dk with
            | int k =>
              replace q : postS X.K B W vs ds D (match setD es k d with | some es' => SR.nx (τ1.set i (some (.lst true es'))) | none => SR.bad) := q
              cases e3 : ixN es.length k with
              | none => unfold setD at q; rw [e3] at q; exact q.elim
              | some j =>
                unfold setD at q; rw [e3] at q
                replace q : postS X.K B W vs ds D (SR.nx (τ1.set i (some (.lst true (es.set j d))))) := q
                have e1' := getD_some e1
                obtain ⟨v, f, h1, a, us, g, rfl, h2, h3, _⟩ := s1.get e1'
                refine ⟨.ref a, h1, F1, τ1, _, _, s1, .int k, e2, fun w fw hw => ?_⟩
                obtain rfl : w = V.int k := hw.1
                refine ⟨a, us, k, j, rfl, rfl, h2, by rw [h3.length]; exact e3, ?_⟩
                obtain ⟨v, k1, s2⟩ := s1.take e1'
                rw [h1] at k1
                cases k1
                have s3 := s2.change (us := [y]) (ds := [d]) (ys := us.set j y) (es2 := es.set j d) rfl h2 fun g1 g2 r1 r2 => by
                  obtain ⟨_, r, f1, f2, ey, q1, q2, q3⟩ := r2
                  cases ey
                  obtain ⟨g, k1, k2⟩ := RepOs.set q1 j r1
                  exact ⟨g, k1, fun b => by have := k2 b; have := q3 b; have := q2.2 b; omega⟩
                have s4 := s3.putBack (i := i) (by rw [List.length_set]; exact (List.getElem?_eq_some_iff.mp e1').1) h1
                rw [List.set_set] at s4
                exact q σ F1 _ s4
            | _ => exact q.elim
      | _ => exact q.elim
/-! ### in, over lists of data -/
def gInD (neg : Bool) (a b : D) : Option D := match b with
  | .lst m xs => if okP a = true ∧ okP (.lst m xs) = true then some (.bl (if neg = true then !(toPs xs).any fun z => PyData.eqv z (toP a) else (toPs xs).any fun z => PyData.eqv z (toP a))) else none
  | _ => none
theorem sInD {K : PySem.W.Frag} : OpS K (rInD K) (gInD false) := by
  intro ca F H x y a b d f1 f2 Q sm hx hy e q
  cases b with
  | lst m xs =>
    replace e : (if okP a = true ∧ okP (.lst m xs) = true then some (D.bl ((toPs xs).any fun z => PyData.eqv z (toP a))) else none) = some d := e
    by_cases c : okP a = true ∧ okP (.lst m xs) = true
    · rw [if_pos c] at e
      cases e
      have c1 := c.1
      have c2 := c.2
      unfold okP at c1 c2
      rw [Bool.and_eq_true] at c1 c2
      exact ⟨_, _, RepO.dp sm a x f1 c1.1 hx, RepO.dp sm _ y f2 c2.1 hy, c1.2, c2.2, q (.bl _) _ (Rep.o (d := .bl _) rfl)⟩
    · rw [if_neg c] at e; cases e
  | _ => cases e
theorem sNotInD {K : PySem.W.Frag} : OpS K (rNotInD K) (gInD true) := by
  intro ca F H x y a b d f1 f2 Q sm hx hy e q
  cases b with
  | lst m xs =>
    replace e : (if okP a = true ∧ okP (.lst m xs) = true then some (D.bl (!(toPs xs).any fun z => PyData.eqv z (toP a))) else none) = some d := e
    by_cases c : okP a = true ∧ okP (.lst m xs) = true
    · rw [if_pos c] at e
      cases e
      have c1 := c.1
      have c2 := c.2
      unfold okP at c1 c2
      rw [Bool.and_eq_true] at c1 c2
      exact ⟨_, _, RepO.dp sm a x f1 c1.1 hx, RepO.dp sm _ y f2 c2.1 hy, c1.2, c2.2, q (.bl _) _ (Rep.o (d := .bl _) rfl)⟩
    · rw [if_neg c] at e; cases e
  | _ => cases e
/-- a comprehension bound to a name that inner blocks read -/
theorem sw_false {elt : Expr} {gs : List Comprehension} {scope : Scope} {pos py : Pos} {y : Str} {l : Nat} {env : PySem.Env} (hy : env.scope.names.lookup y = some .cell) : swapsWith (.ListComp elt gs scope pos) (some (.Name y py)) l env = pure false := by
  have h : (env.kindOf y == some .local) = false := by
    show (env.scope.names.lookup y == some .local) = false
    rw [hy]; rfl
  show pure (env.blockKind == .function && env.kindOf y == some .local && py.line == pos.line && !(scope.names.any fun (n, k) => n == y && (k == .local || k == .cell))) = _
  rw [h, Bool.and_false]
  rfl
theorem units65 {k : Nat} {A : Around} (r : Room k A) : A.units + 65 < cLine := by have := r.un; omega
/-! ### a comprehension over a list that its name keeps -/
theorem RepOs.getI {K : PySem.W.Frag} {ca : Str → Addr} {F H : Hp} : ∀ {es : List D} {us : List V} {g : Ct} {i : Nat} {d : D}, RepOs K ca F H es us g → es[i]? = some d → ∃ v f, us[i]? = some v ∧ RepO K ca F H d v f
  | [], _, _, _, _, _, e => by simp at e
  | x :: es, _, _, 0, d, ⟨v, r, f1, f2, e, h1, _⟩, hd => by
    subst e
    simp at hd; subst hd
    exact ⟨v, f1, rfl, h1⟩
  | x :: es, _, _, i + 1, d, ⟨v, r, f1, f2, e, _, h2, _⟩, hd => by
    subst e
    obtain ⟨w, f, k1, k2⟩ := RepOs.getI (i := i) h2 (by simpa using hd)
    exact ⟨w, f, by simpa using k1, k2⟩
theorem itOk_own {K : PySem.W.Frag} {a : Addr} {es : List D} {vs : List V} {ds : List D} (hz : es.all isFz = true) : ItOk K B (Itl K a) es (.ref a :: vs) (.lst true es :: ds) := by
  have look : ∀ {F H σ τ}, StT K B F H σ τ (.ref a :: vs) (.lst true es :: ds) → ∃ us g, SqL K H a us ∧ RepOs K B.ca F H es us g := fun {F H σ τ} s => by
    obtain ⟨f, a', us, g, e, h1, h2, _⟩ := s.top
    cases e
    exact ⟨us, g, sqOf h1, h2⟩
  refine ⟨fun i F H σ τ s hi => ?_, fun F H σ τ s => ?_, fun i d F H σ τ x H' us' es' hl hd s y => ?_⟩
  · obtain ⟨us, g, h1, h2⟩ := look s
    exact ⟨us, us[i]'(by rw [h2.length]; exact hi), h1, by simp [h2.length, hi]⟩
  · obtain ⟨us, g, h1, h2⟩ := look s
    exact ⟨us, h1, by rw [h2.length]; exact Nat.le_refl _⟩
  · obtain ⟨rfl, y⟩ := y
    obtain ⟨us, g, h1, h2⟩ := look (s.pops hl)
    obtain ⟨v, f, e, r⟩ := h2.getI hd
    rw [y us h1] at e; cases e
    exact ⟨F, s.push ((repO_fz (List.all_eq_true.mp hz _ (List.mem_of_getElem? hd))).mp r).1⟩
def eLcB (own : List Nat) (i : Nat) (g : D → Env → Option Env) (t : MT) (m : ME) : ME := fun τ => match τ.getD i none with
  | some (.lst true es) => if es.all isFz = true then (match lcL own g t m es [] (wipeE (τ.set i none) own) with
    | .ok acc τ2 => .ok (.lst true acc) (τ2.set i (some (.lst true es)))
    | _ => .bad) else .bad
  | _ => .bad
theorem StT.len {K : PySem.W.Frag} {F H : Hp} {σ : L2.St} {τ : Env} {vs : List V} {ds : List D} (s : StT K B F H σ τ vs ds) : σ.length = τ.length := by
  obtain ⟨_, _, a, _⟩ := s
  exact a.length
theorem impLcB {own : List Nat} {i : Nat} {g : D → Env → Option Env} {sl : List Nat} {t : MT} {m : ME} (hsl : ∀ j ∈ sl, j ∈ own) (hio : ioFreeL B own) (σ : L2.St) (H : Hp) (Q : VK) (h : rdE X.K B W (eLcB own i g t m) σ H Q) : tLc (iList X.K (tVar i)) (rdG X.K B sl g) (rdT X.K B W0 t) (rdE X.K B W0 m) own σ H Q := by
  obtain ⟨F, τ, vs, ds, s, p⟩ := h
  unfold eLcB at p
  cases e0 : τ.getD i none with
  | none => rw [e0] at p; exact p.elim
  | some d0 =>
    rw [e0] at p
    cases d0 with
    | lst mm es =>
      cases mm with
      | false => exact p.elim
      | true =>
        replace p : post _ _ (if es.all isFz = true then (match lcL own g t m es [] (Bn.wipeE (τ.set i none) own) with | .ok acc τ2 => R.ok (D.lst true acc) (τ2.set i (some (.lst true es))) | _ => R.bad) else R.bad) := p
        by_cases z : es.all isFz = true
        · rw [if_pos z] at p
          obtain ⟨v, h1, s1⟩ := s.take (getD_some e0)
          obtain ⟨f, a, us, g', rfl, h2, _⟩ := s1.top
          refine ⟨.ref a, h1, a, rfl, ⟨us, sqOf h2⟩, ?_⟩
          cases e : lcL own g t m es [] (Bn.wipeE (τ.set i none) own) with
          | ok acc τ2 =>
            rw [e] at p
            refine lc_core' (itOk_own z) hsl hio s1 e fun v F2 H2 s2 => p v F2 H2 ?_
            have s3 := StT.swap (us := [v]) (es := [.lst true acc]) s2 rfl
            exact s3.putBack (by rw [← s3.len]; exact (List.getElem?_eq_some_iff.mp h1).1) h1
          | _ => rw [e] at p; exact p.elim
        · rw [if_neg z] at p; exact p.elim
    | _ => exact p.elim
theorem e_lcB {elt tg iter : Expr} {ifs : List Expr} {scope : Scope} {own : List (Str × Nat)} {pos : Pos} {i : Nat} {g : D → Env → Option Env} {sl : List Nat} {t : MT} {m : ME} (c : XOk X W) (hN : X.N.Nodup) (hi : PE X iter (tVar i)) (ok : BlkOk X.N X.env.scope scope own)
    (hg : ∀ (s : Shared) (H : Hp) (C : Addr) (cl : List (Str × Addr)) (fp : List Addr), PG (X.blk s H scope (compEnvC scope cl C X.env) fp) tg (rdG X.K B sl g)) (ht : ∀ (s : Shared) (H : Hp) (C : Addr) (cl : List (Str × Addr)) (fp : List Addr), PTs (X.blk s H scope (compEnvC scope cl C X.env) fp) ifs (rdT X.K B W0 t))
    (he : ∀ (s : Shared) (H : Hp) (C : Addr) (cl : List (Str × Addr)) (fp : List Addr), XOk (X.blk s H scope (compEnvC scope cl C X.env) fp) W0 → PE (X.blk s H scope (compEnvC scope cl C X.env) fp) elt (rdE X.K B W0 m))
    (hsl : ∀ j ∈ sl, j ∈ own.map (·.2) := by decide) (hio : ioFreeL B (own.map (·.2)) := by first | (intro p hp; cases hp; done) | (intro p hp; simp only [List.mem_cons, List.not_mem_nil, or_false] at hp; rcases hp with rfl | rfl <;> simp) | (intro p hp; simp only [List.mem_cons, List.not_mem_nil, or_false] at hp; subst hp; simp)) (hs : ∀ x, foldedSetIterable iter X.env x = pure x := by intro _; rfl) :
    PE X (.ListComp elt [⟨tg, iter, ifs, 0⟩] scope pos) (rdE X.K B W (eLcB (own.map (·.2)) i g t m)) :=
  PE.imp (pe_lc c.calm hN (pi_list hi) ok hg ht (fun s H C cl fp => he s H C cl fp ⟨takes0, PassesOwn.never, c.calm⟩) hs) (impLcB hsl hio)
theorem s_setLcB {i : Nat} {y : Str} {py : Pos} {elt tg iter : Expr} {ifs : List Expr} {scope : Scope} {own : List (Str × Nat)} {pos spos : Pos} {l : Nat} {g : D → Env → Option Env} {sl : List Nat} {t : MT} {m : ME} (c : XOk X W) (hN : X.N.Nodup) (hy : X.N[i]? = some y) (hyl : X.env.scope.names.lookup y = some .local)
    (hsw : swapsWith (.ListComp elt [⟨tg, iter, ifs, 0⟩] scope pos) (some (.Name y py)) spos.line X.env = pure true) (hi : PE X iter (tVar l)) (ok : BlkOk X.N X.env.scope scope own)
    (hg : ∀ (s : Shared) (H : Hp) (C : Addr) (cl : List (Str × Addr)) (fp : List Addr), PG (X.blk s H scope (compEnvC scope cl C X.env) fp) tg (rdG X.K B sl g)) (ht : ∀ (s : Shared) (H : Hp) (C : Addr) (cl : List (Str × Addr)) (fp : List Addr), PTs (X.blk s H scope (compEnvC scope cl C X.env) fp) ifs (rdT X.K B W0 t))
    (he : ∀ (s : Shared) (H : Hp) (C : Addr) (cl : List (Str × Addr)) (fp : List Addr), XOk (X.blk s H scope (compEnvC scope cl C X.env) fp) W0 → PE (X.blk s H scope (compEnvC scope cl C X.env) fp) elt (rdE X.K B W0 m))
    (hsl : ∀ j ∈ sl, j ∈ own.map (·.2) := by decide) (hio : ioFreeL B (own.map (·.2)) := by first | (intro p hp; cases hp; done) | (intro p hp; simp only [List.mem_cons, List.not_mem_nil, or_false] at hp; rcases hp with rfl | rfl <;> simp) | (intro p hp; simp only [List.mem_cons, List.not_mem_nil, or_false] at hp; subst hp; simp)) (hio2 : ioFree B i := by first | (intro p hp; cases hp; done) | (intro p hp; simp only [List.mem_cons, List.not_mem_nil, or_false] at hp; rcases hp with rfl | rfl <;> simp) | (intro p hp; simp only [List.mem_cons, List.not_mem_nil, or_false] at hp; subst hp; simp)) (hs : ∀ x, foldedSetIterable iter X.env x = pure x := by intro _; rfl) :
    PS X (.Assign [.Name y py] (.ListComp elt [⟨tg, iter, ifs, 0⟩] scope pos) spos) (rdS X.K B W (sAsg (eLcB (own.map (·.2)) l g t m) (gN i))) :=
  PS.imp (ps_setLc c.calm hN hy hyl hsw (pi_list hi) ok hg ht (fun s H C cl fp => he s H C cl fp ⟨takes0, PassesOwn.never, c.calm⟩) hs) fun D σ H ⟨F, τ, vs, ds, s, p⟩ =>
    impLcB hsl hio σ H _ ⟨F, τ, vs, ds, s, post_imp (post_s (σ := σ) p) (fun d τ1 q v F1 H1 s1 => q _ F1 H1 (s1.put' hio2)) fun _ _ q => q⟩
end
end Bn

/-! Parameters that a def changes. -/
namespace Bn
open PySem PySem.Spec PyProof.Rows L2
inductive CR2 where
  | ok (d : D) (outs : List D)
  | bad
def ioL : Nat → List V → List (Nat × V)
  | _, [] => []
  | j, u :: us => (j, u) :: ioL (j + 1) us
/-- the first k parameters are handed to be changed -/
def spIO (K : PySem.W.Frag) (ca : Str → Addr) (k : Nat) (g : List D → CR2) : Sp := fun vs H Q _ => ∃ F f ios rest us ws, vs = us ++ ws ∧ ios.length = k ∧ RepOs K ca F H ios us f ∧ RepL K ca F rest ws ∧ Same F H ∧ (∀ a, f a ≤ 1) ∧ (∀ a, 0 < f a → F a = none) ∧
  match g (ios ++ rest) with
  | .ok d outs => ∀ v F' H' g', Same F F' → Same F' H' → (∀ a o, f a = 0 → H a = some o → H' a = some o) → RepOs K ca F' H' (d :: outs) (v :: us) g' → (∀ a, g' a ≤ 1) → (∀ a, 0 < g' a → F' a = none ∧ (H a = none ∨ 0 < f a)) → (∀ a, F' a ≠ none → F a ≠ none ∨ H a = none ∨ 0 < f a) → Q v H'
  | .bad => False
structure FoI (P : Program) (w : World) (K : PySem.W.Frag) (mg : Str → Option Value) (base : Heap) (ca : Str → Addr) (k : Nat) (x : Str) (m : Nat) (g : List D → CR2) : Prop where
  ex : ∃ f fd ps, mg x = some (.ref f) ∧ PySem.W.keepIn K (.ref f) = true ∧ Binds K fd ps [] ∧ FnOk P w K mg base (L2.CX P w) k f fd ps (spIO K ca m g)
def outsE : Nat → Env → Option (List D)
  | 0, _ => some []
  | _ + 1, [] => none
  | k + 1, o :: τ => match o with
    | none => none
    | some d => (outsE k τ).map (d :: ·)
def outR (k : Nat) (d : D) (τ : Env) : CR2 := match outsE k τ with
  | some os => .ok d os
  | none => .bad
def callFI (n N k : Nat) (b : MS) : List D → CR2 := fun ds => if ds.length = n then (match b (ds.map some ++ List.replicate (N - n) none) with
  | .nx τ => outR k .non τ
  | .rt d τ => outR k d τ
  | _ => .bad) else .bad
section
variable {K : PySem.W.Frag} {ca : Str → Addr} {F H : Hp}
theorem sl_startO {rest : List D} {ws : List V} {k : Nat} (hr : RepL K ca F rest ws) : ∀ {ios : List D} {us : List V} {f : Ct}, RepOs K ca F H ios us f → Sl K ca F H ((ios ++ rest).map some ++ List.replicate k none) ((us ++ ws).map some ++ List.replicate k none) f
  | [], us, f, h => by
    cases (show us = [] from h.1)
    have e : f = fun _ => 0 := funext h.2
    subst e
    exact sl_start hr
  | d :: ds, _, f, ⟨v, r, f1, f2, e, h1, h2, h3⟩ => by
    subst e
    exact ⟨v, _, f1, f2, rfl, h1, sl_startO hr h2, h3⟩
theorem sl_outs : ∀ {k : Nat} {τ : Env} {σ : L2.St} {f : Ct} {os : List D} {us : List V}, Sl K ca F H τ σ f → outsE k τ = some os → us.length = k → σ.take k = us.map some → ∃ g r : Ct, RepOs K ca F H os us g ∧ ∀ b, f b = g b + r b
  | 0, τ, σ, f, os, us, h, e, hl, _ => by
    cases (show some [] = some os from e)
    cases us with
    | nil => exact ⟨fun _ => 0, f, ⟨rfl, fun _ => rfl⟩, fun b => by show f b = 0 + f b; omega⟩
    | cons _ _ => cases hl
  | k + 1, [], σ, f, os, us, h, e, _, _ => by cases e
  | k + 1, none :: τ, σ, f, os, us, h, e, _, _ => by cases e
  | k + 1, some d :: τ, _, f, os, us, ⟨v, r, f1, f2, h1, h2, h3, h4⟩, e, hl, ht => by
    subst h1
    replace e : (outsE k τ).map (d :: ·) = some os := e
    cases e2 : outsE k τ with
    | none => rw [e2] at e; cases e
    | some os' =>
      rw [e2] at e
      cases e
      cases us with
      | nil => cases hl
      | cons u us =>
        rw [List.take_succ_cons, List.map_cons] at ht
        injection ht with ht1 ht2
        cases ht1
        obtain ⟨g, r', k1, k2⟩ := sl_outs h3 e2 (by simpa using hl) ht2
        exact ⟨fun b => f1 b + g b, r', ⟨v, us, f1, g, rfl, h2, k1, fun _ => rfl⟩, fun b => by show f b = f1 b + g b + r' b; rw [h4, k2]; omega⟩
theorem ioL_get : ∀ {us : List V} {j : Nat} {p : Nat × V}, p ∈ ioL j us → j ≤ p.1 ∧ us[p.1 - j]? = some p.2
  | [], _, _, h => by cases h
  | u :: us, j, p, h => by
    rcases List.mem_cons.mp h with rfl | h
    · exact ⟨Nat.le_refl _, by simp⟩
    · obtain ⟨h1, h2⟩ := ioL_get h
      refine ⟨by omega, ?_⟩
      rw [show p.1 - j = (p.1 - (j + 1)) + 1 by omega, List.getElem?_cons_succ]
      exact h2
theorem ioL_mem : ∀ {us : List V} {j i : Nat} {u : V}, us[i]? = some u → (j + i, u) ∈ ioL j us
  | [], _, _, _, h => by simp at h
  | x :: us, j, 0, u, h => by simp at h; subst h; exact List.mem_cons_self
  | x :: us, j, i + 1, u, h => by
    have := ioL_mem (j := j + 1) (i := i) (us := us) (u := u) (by simpa using h)
    rw [show j + 1 + i = j + (i + 1) by omega] at this
    exact List.mem_cons_of_mem _ this
end
section
variable {P : Program} {w : World} {K : PySem.W.Frag} {mg : Str → Option Value} {base : Heap} {ca : Str → Addr}
theorem fn_okIO {x qual : Str} {st : Stmt} {f : Addr} {fd : FuncData} {N ps : List Str} {k m : Nat} {b : MS} (F : Fun K x qual st f fd) (S : FnScope N ps (defScope st)) (hm : m ≤ ps.length)
    (hb : ∀ (cdv : Value) (A : Around) (outer : List PySem.Env) (s : Shared) (H : Hp) (E : XK) (F0 R : Hp) (us : List V), us.length = m → Room k (A.deeper (envOfC qual (defScope st) s.heap.objs.size f cdv)) →
      XOk (cxOf (L2.CX P w) P w K mg base N qual (defScope st) f cdv A outer s H E) (fun cls d _ H => E cls d H) →
      PSs (cxOf (L2.CX P w) P w K mg base N qual (defScope st) f cdv A outer s H E) (defBody st) (rdS K ⟨ca, F0, R, ioL 0 us⟩ (fun cls d _ H => E cls d H) b)) :
    FnOk P w K mg base (L2.CX P w) (k + 1) f fd ps (spIO K ca m (callFI ps.length N.length m b)) := by
  classical
  refine F.okX S (fun vs H Q E h => ?_) (fun cdv A outer s H vs Q E hr h => ?_)
  · obtain ⟨F0, g, ios, rest, us, ws, rfl, _, r1, r2, _, _, _, h⟩ := h
    by_cases e : (ios ++ rest).length = ps.length
    · rw [← e, List.length_append, List.length_append, r1.length, r2.length]
    · unfold callFI at h
      rw [if_neg e] at h
      exact h.elim
  · obtain ⟨F0, g, ios, rest, us, ws, rfl, him, r1, r2, sm, nd, dF, h⟩ := h
    have ul : us.length = m := by rw [r1.length]; exact him
    refine ⟨_, hb cdv A outer s H E F0 (fun a => if 0 < g a then none else H a) us ul hr ⟨takes_of rfl rfl rfl rfl, passes_of rfl, rfl⟩, ?_⟩
    have hl : (ios ++ rest).length = ps.length := by
      by_cases e : (ios ++ rest).length = ps.length
      · exact e
      · unfold callFI at h
        rw [if_neg e] at h
        exact h.elim
    unfold callFI at h
    rw [if_pos hl] at h
    have hstart : L2.start N (us ++ ws) = (us ++ ws).map some ++ List.replicate (N.length - ps.length) none := by
      unfold L2.start
      rw [← hl, List.length_append, List.length_append, r1.length, r2.length]
    have st0 : StT K ⟨ca, F0, (fun a => if 0 < g a then none else H a), ioL 0 us⟩ F0 H (L2.start N (us ++ ws)) ((ios ++ rest).map some ++ List.replicate (N.length - ps.length) none) [] [] := by
      refine ⟨g, fun _ => 0, ?_, ⟨rfl, fun _ => rfl⟩, ⟨fun a => nd a, fun a q => dF a q, fun a q => if_pos q, sm, fun a o e => ?_, Same.refl _, fun a q => .inl q⟩, fun p hp => ?_⟩
      · rw [hstart]; exact sl_startO r2 r1
      · replace e : (if 0 < g a then none else H a) = some o := e
        split at e
        · cases e
        · exact e
      · rw [hstart]
        obtain ⟨_, h2⟩ := ioL_get hp
        rw [Nat.sub_zero] at h2
        have hlt := (List.getElem?_eq_some_iff.mp h2).1
        rw [List.getElem?_append_left (by rw [List.length_map, List.length_append]; omega), List.getElem?_map, List.getElem?_append_left hlt, h2]
        rfl
    refine ⟨F0, _, [], [], st0, ?_⟩
    have done : ∀ (d : D) (τ : Env) (v : V) (σ' : L2.St) (F' H' : Hp), (match outR m d τ with | .ok d outs => ∀ v F' H' g', Same F0 F' → Same F' H' → (∀ a o, g a = 0 → H a = some o → H' a = some o) → RepOs K ca F' H' (d :: outs) (v :: us) g' → (∀ a, g' a ≤ 1) → (∀ a, 0 < g' a → F' a = none ∧ (H a = none ∨ 0 < g a)) → (∀ a, F' a ≠ none → F0 a ≠ none ∨ H a = none ∨ 0 < g a) → Q v H' | .bad => False) → StT K ⟨ca, F0, (fun a => if 0 < g a then none else H a), ioL 0 us⟩ F' H' σ' τ [v] [d] → Q v H' := by
      intro d τ v σ' F' H' h s'
      unfold outR at h
      cases eo : outsE m τ with
      | none => rw [eo] at h; exact h.elim
      | some os =>
        rw [eo] at h
        obtain ⟨f1, f2, hs, ⟨_, _, g1, g2, ee, hv, _, q⟩, w', io⟩ := s'
        cases ee
        have ht : σ'.take m = us.map some := by
          apply List.ext_getElem?
          intro i
          rw [List.getElem?_take, List.getElem?_map]
          split
          · rename_i hi
            have hu : us[i]? = some us[i] := List.getElem?_eq_getElem (by omega)
            have := io _ (ioL_mem (j := 0) hu)
            rw [Nat.zero_add] at this
            rw [this, hu]; rfl
          · rw [List.getElem?_eq_none (by omega)]; rfl
        obtain ⟨g3, r3, k1, k2⟩ := sl_outs hs eo ul ht
        have le : ∀ a, g1 a + g3 a ≤ f1 a + f2 a := fun a => by rw [q, k2]; omega
        refine h v F' H' (fun a => g1 a + g3 a) w'.s0 w'.sF (fun a o e1 e2 => w'.sR a o (by show (if 0 < g a then none else H a) = some o; rw [if_neg (by omega)]; exact e2)) ⟨v, us, g1, g3, rfl, hv, k1, fun _ => rfl⟩ (fun a => Nat.le_trans (le a) (w'.nd a)) (fun a z => ⟨w'.dF a (Nat.lt_of_lt_of_le z (le a)), ?_⟩) fun a z => ?_
        · have := w'.dR a (Nat.lt_of_lt_of_le z (le a))
          replace this : (if 0 < g a then none else H a) = none := this
          split at this
          · exact .inr (by assumption)
          · exact .inl this
        · rcases w'.fr a z with y | y
          · exact .inl y
          · replace y : (if 0 < g a then none else H a) = none := y
            split at y
            · exact .inr (.inr (by assumption))
            · exact .inr (.inl y)
    cases e : b ((ios ++ rest).map some ++ List.replicate (N.length - ps.length) none) with
    | nx τ =>
      rw [e] at h
      intro σ' F' H' s'
      exact done .non τ .non σ' F' H' h (s'.push rfl)
    | rt d τ =>
      rw [e] at h
      intro v σ' F' H' s'
      exact done d τ v σ' F' H' h s'
    | ex c τ => rw [e] at h; exact h.elim
    | bk τ => rw [e] at h; exact h.elim
    | ct τ => rw [e] at h; exact h.elim
    | bad => rw [e] at h; exact h.elim
theorem foI_of {x qual : Str} {st : Stmt} {f : Addr} {fd : FuncData} {ps : List Str} {k m : Nat} {g : List D → CR2} (F : Fun K x qual st f fd) (hm : mg x = some (.ref f)) (hb : Binds K fd ps []) (h : FnOk P w K mg base (L2.CX P w) k f fd ps (spIO K ca m g)) : FoI P w K mg base ca k x m g := ⟨f, fd, ps, hm, F.kp, hb, h⟩
end
/-! ### the call -/
def takeD : List Nat → Env → Option (List D × Env)
  | [], τ => some ([], τ)
  | i :: is, τ => match τ.getD i none with
    | none => none
    | some d => (takeD is (τ.set i none)).map fun p => (d :: p.1, p.2)
def putD : List Nat → List D → Env → Env
  | i :: is, d :: ds, τ => putD is ds (τ.set i (some d))
  | _, _, τ => τ
def callI (g : List D → CR2) (is : List Nat) (ds : List D) (τ1 : Env) : R D := match takeD is τ1 with
  | none => .bad
  | some (ios, τ2) => match g (ios ++ freezeL ds) with
    | .ok d outs => if outs.length = is.length then .ok d (putD is outs τ2) else .bad
    | .bad => .bad
def eCallI (g : List D → CR2) (is : List Nat) (m : MA) : ME := fun τ => if is.all (fun i => (τ.getD i none).isSome) = true then (m τ).bind fun ds τ1 => callI g is ds τ1 else .bad
def tIO : List Nat → TA → TA
  | [], t => t
  | i :: r, t => fun σ H Q => ∃ v, σ[i]? = some (some v) ∧ tIO r t σ H fun us H' => Q (v :: us) H'
section
variable {X : Cx} {B : Bx} {W : WX}
theorem pa_io0 {es : List Expr} {t : TA} (h : PA X es t) : PA X es (tIO [] t) := h
theorem pa_io {e : Expr} {es : List Expr} {i : Nat} {is : List Nat} {t : TA} (he : PE X e (tVar i)) (h : PA X es (tIO is t)) (hs : starEach (e :: es) X.env = (false, eval e X.env) :: starEach es X.env := by rfl) : PA X (e :: es) (tIO (i :: is) t) := pa_cons he h hs
theorem io_vals {F H : Hp} {σ : L2.St} {τ : Env} {vs : List V} {ds : List D} (s : StT X.K B F H σ τ vs ds) : ∀ (is : List Nat), is.all (fun i => (τ.getD i none).isSome) = true → ∃ vals : List V, vals.length = is.length ∧ (∀ (j i : Nat), is[j]? = some i → ∃ v, vals[j]? = some v ∧ σ[i]? = some (some v)) ∧ ∀ (t : TA) (H : Hp) (Q : List V → Hp → Prop), (t σ H fun us H' => Q (vals ++ us) H') → tIO is t σ H Q
  | [], _ => ⟨[], rfl, fun j i h => by simp at h, fun t H Q h => h⟩
  | i :: is, h => by
    rw [List.all_cons, Bool.and_eq_true] at h
    obtain ⟨vals, h1, h2, h3⟩ := io_vals s is h.2
    cases e : τ.getD i none with
    | none => rw [e] at h; cases h.1
    | some d =>
      obtain ⟨v, f, k1, _⟩ := s.get (getD_some e)
      refine ⟨v :: vals, by simp [h1], fun j i' hj => ?_, fun t H Q q => ⟨v, k1, h3 t H _ q⟩⟩
      cases j with
      | zero => simp at hj; subst hj; exact ⟨v, rfl, k1⟩
      | succ j => obtain ⟨w, e1, e2⟩ := h2 j i' (by simpa using hj); exact ⟨w, by simpa using e1, e2⟩
theorem StT.takes {F H : Hp} {σ : L2.St} : ∀ {is : List Nat} {τ τ' : Env} {vs vals : List V} {ds ios : List D}, StT X.K B F H σ τ vs ds → takeD is τ = some (ios, τ') → vals.length = is.length → (∀ (j i : Nat), is[j]? = some i → ∃ v, vals[j]? = some v ∧ σ[i]? = some (some v)) → ios.length = is.length ∧ StT X.K B F H σ τ' (vals ++ vs) (ios ++ ds)
  | [], τ, τ', vs, vals, ds, ios, s, e, hl, _ => by
    cases (show some ([], τ) = some (ios, τ') from e)
    cases vals with
    | nil => exact ⟨rfl, s⟩
    | cons _ _ => cases hl
  | i :: is, τ, τ', vs, vals, ds, ios, s, e, hl, hv => by
    cases e1 : τ.getD i none with
    | none =>
      unfold takeD at e
      rw [e1] at e; cases e
    | some d =>
      unfold takeD at e
      rw [e1] at e
      replace e : (takeD is (τ.set i none)).map (fun p => (d :: p.1, p.2)) = some (ios, τ') := e
      cases e2 : takeD is (τ.set i none) with
      | none => rw [e2] at e; cases e
      | some p =>
        rw [e2] at e
        cases e
        cases vals with
        | nil => cases hl
        | cons v vals =>
          obtain ⟨v', k1, k2⟩ := hv 0 i rfl
          obtain ⟨v2, k3, s1⟩ := s.take (getD_some e1)
          have : v' = v := by simpa using k1.symm
          subst this
          rw [k2] at k3
          cases k3
          obtain ⟨hl2, s2⟩ := StT.takes (vals := vals) (ios := p.1) (τ' := p.2) s1 e2 (by simpa using hl) fun j i' hj => by
            obtain ⟨w, q1, q2⟩ := hv (j + 1) i' (by simpa using hj)
            exact ⟨w, by simpa using q1, q2⟩
          have hl3 : vals.length = p.1.length := by
            have : vals.length = is.length := by simpa using hl
            omega
          exact ⟨by simp [hl2], s2.swap hl3⟩
theorem StT.puts {F H : Hp} {σ : L2.St} {v0 : V} {d0 : D} : ∀ {is : List Nat} {τ : Env} {vs vals : List V} {ds outs : List D}, StT X.K B F H σ τ (v0 :: (vals ++ vs)) (d0 :: (outs ++ ds)) → vals.length = is.length → outs.length = is.length → (∀ (j i : Nat), is[j]? = some i → ∃ v, vals[j]? = some v ∧ σ[i]? = some (some v)) → StT X.K B F H σ (putD is outs τ) (v0 :: vs) (d0 :: ds)
  | [], τ, vs, vals, ds, outs, s, hl, ho, _ => by
    cases vals with
    | nil => cases outs with
      | nil => exact s
      | cons _ _ => cases ho
    | cons _ _ => cases hl
  | i :: is, τ, vs, vals, ds, outs, s, hl, ho, hv => by
    cases vals with
    | nil => cases hl
    | cons v vals => cases outs with
      | nil => cases ho
      | cons d outs =>
        obtain ⟨v', k1, k2⟩ := hv 0 i rfl
        have : v' = v := by simpa using k1.symm
        subst this
        have s1 := StT.swap (us := [v0]) (es := [d0]) s rfl
        have s2 := s1.putBack (i := i) (by rw [← s1.len]; exact (List.getElem?_eq_some_iff.mp k2).1) k2
        have s3 : StT X.K B F H σ (τ.set i (some d)) (v0 :: (vals ++ vs)) (d0 :: (outs ++ ds)) := s2
        show StT X.K B F H σ (putD is outs (τ.set i (some d))) (v0 :: vs) (d0 :: ds)
        exact StT.puts (is := is) (vals := vals) (outs := outs) s3 (by simpa using hl) (by simpa using ho) fun j i' hj => by
          obtain ⟨w, q1, q2⟩ := hv (j + 1) i' (by simpa using hj)
          exact ⟨w, by simpa using q1, q2⟩
theorem StT.calledIO {K : PySem.W.Frag} {F H : Hp} {σ : L2.St} {τ : Env} {vs vals : List V} {ds ios : List D} (hl : vals.length = ios.length) (s : StT K B F H σ τ (vals ++ vs) (ios ++ ds)) : ∃ f : Ct, RepOs K B.ca F H ios vals f ∧ (∀ a, f a ≤ 1) ∧ (∀ a, 0 < f a → F a = none) ∧
    ∀ (F' H' : Hp) (v : V) (d : D) (outs : List D) (g' : Ct), Same F F' → Same F' H' → (∀ a o, f a = 0 → H a = some o → H' a = some o) → RepOs K B.ca F' H' (d :: outs) (v :: vals) g' → (∀ a, g' a ≤ 1) → (∀ a, 0 < g' a → F' a = none ∧ (H a = none ∨ 0 < f a)) → (∀ a, F' a ≠ none → F a ≠ none ∨ H a = none ∨ 0 < f a) → StT K B F' H' σ τ (v :: (vals ++ vs)) (d :: (outs ++ ds)) := by
  obtain ⟨f1, f2, A, b, w, io⟩ := s
  obtain ⟨fi, fr, b1, b2, q⟩ := b.split' hl
  have nd : ∀ a, f1 a + (fi a + fr a) ≤ 1 := fun a => by rw [← q]; exact w.nd a
  refine ⟨fi, b1, fun a => by have := nd a; omega, fun a h => w.dF a (by show 0 < f1 a + f2 a; rw [q]; omega), fun F' H' v d outs g' h1 h2 h3 hv h4 h5 h6 => ?_⟩
  have t1 : ∀ x, 0 < f1 x → H x ≠ none := A.there
  have t2 : ∀ x, 0 < fr x → H x ≠ none := b2.there _ _ _
  have k : ∀ x, H x ≠ none → fi x = 0 → H' x = H x := fun x hx hf => by
    cases e : H x with
    | none => exact absurd e hx
    | some o => exact h3 _ _ hf e
  obtain ⟨_, us', g1, g2, ee, hd, ho, hq⟩ := hv
  cases ee
  refine ⟨f1, fun b => g1 b + (g2 b + fr b), A.mono h1 fun x hx => k x (t1 x hx) (by have := nd x; omega), ⟨v, vals ++ vs, g1, fun b => g2 b + fr b, rfl, hd, ho.append (RepOs.mono h1 _ _ _ (fun x hx => k x (t2 x hx) (by have := nd x; omega)) b2), fun _ => rfl⟩, ?_, io⟩
  have old : ∀ x, 0 < f1 x + fr x → F' x = none := fun x hx => by
    have hF := w.dF x (by show 0 < f1 x + f2 x; rw [q]; omega)
    cases e : F' x with
    | none => rfl
    | some o =>
      rcases h6 x (by rw [e]; exact fun z => by cases z) with z | z | z
      · exact absurd hF z
      · by_cases y : 0 < f1 x
        · exact absurd z (t1 x y)
        · exact absurd z (t2 x (by omega))
      · have := nd x; omega
  refine ⟨fun x => ?_, fun x hx => ?_, fun x hx => ?_, h2, fun x o e => h3 x o ?_ (w.sR x o e), w.s0.trans h1, fun x hx => ?_⟩
  · show f1 x + (g1 x + (g2 x + fr x)) ≤ 1
    have g4 := h4 x
    rw [hq] at g4
    by_cases y : 0 < g1 x + g2 x
    · rcases (h5 x (by rw [hq]; exact y)).2 with z | z
      · have : ¬ 0 < f1 x := fun e => t1 x e z
        have : ¬ 0 < fr x := fun e => t2 x e z
        omega
      · have := nd x; omega
    · have := nd x; omega
  · replace hx : 0 < f1 x + (g1 x + (g2 x + fr x)) := hx
    by_cases y : 0 < g1 x + g2 x
    · exact (h5 x (by rw [hq]; exact y)).1
    · exact old x (by omega)
  · replace hx : 0 < f1 x + (g1 x + (g2 x + fr x)) := hx
    by_cases y : 0 < g1 x + g2 x
    · rcases (h5 x (by rw [hq]; exact y)).2 with z | z
      · cases e : B.R x with
        | none => rfl
        | some o => rw [w.sR _ _ e] at z; cases z
      · exact w.dR x (by show 0 < f1 x + f2 x; rw [q]; omega)
    · exact w.dR x (by show 0 < f1 x + f2 x; rw [q]; omega)
  · by_cases y : 0 < fi x
    · have := w.dR x (by show 0 < f1 x + f2 x; rw [q]; omega)
      rw [this] at e; cases e
    · omega
  · rcases h6 x hx with z | z | z
    · exact w.fr x z
    · right
      cases e : B.R x with
      | none => rfl
      | some o => rw [w.sR _ _ e] at z; cases z
    · exact .inr (w.dR x (by show 0 < f1 x + f2 x; rw [q]; omega))
theorem e_callI {x : Str} {p pos : Pos} {e : Expr} {es : List Expr} {m : MA} {g : List D → CR2} {k j n : Nat} {is : List Nat} (c : XOk X W) (G : FoI X.prog X.w X.K X.mg X.base B.ca k x n g) (hr : Room j X.A) (hg : Gl X x) (ha : PA X (e :: es) (tIO is (rdA X.K B W m))) (hn : is.length = n := by rfl) (hk : k ≤ j := by decide) (hdb : (x == ("__debug__" : Str)) = false := by decide)
    (he : starEach (e :: es) X.env = (false, eval e X.env) :: starEach es X.env := by rfl) (hpl : (backTo pos (starEach es X.env)).any (·.1) = false := by rfl) : PE X (.Call (.Name x p) (e :: es) [] pos) (rdE X.K B W (eCallI g is m)) := by
  obtain ⟨f, fd, ps, h1, h2, h3, h4⟩ := G.ex
  refine PE.imp (pe_callS h4 (hr.mono hk) hg h1 h2 h3 (fun σ => passAt c.tk σ) ha hdb he hpl) fun σ H Q h => ?_
  obtain ⟨F, τ, vs, ds, s, p⟩ := h
  unfold eCallI at p
  by_cases z : is.all (fun i => (τ.getD i none).isSome) = true
  · rw [if_pos z] at p
    obtain ⟨vals, v1, v2, v3⟩ := io_vals s is z
    refine v3 _ H _ ⟨F, τ, vs, ds, s, post_imp (post_bind p) (fun as τ1 q us F1 H1 hl s1 => ?_) fun _ _ q => q⟩
    obtain ⟨F2, sm, rl, s2⟩ := s1.freeze hl
    unfold callI at q
    cases et : takeD is τ1 with
    | none => rw [et] at q; exact q.elim
    | some pr =>
      obtain ⟨ios, τ2⟩ := pr
      rw [et] at q
      replace q : post _ _ (match g (ios ++ freezeL as) with | .ok d outs => if outs.length = is.length then R.ok d (putD is outs τ2) else R.bad | .bad => R.bad) := q
      obtain ⟨il, s3⟩ := s2.takes et v1 v2
      have hvl : vals.length = ios.length := by omega
      cases eg : g (ios ++ freezeL as) with
      | bad => rw [eg] at q; exact q.elim
      | ok d outs =>
        rw [eg] at q
        replace q : post _ _ (if outs.length = is.length then R.ok d (putD is outs τ2) else R.bad) := q
        by_cases ol : outs.length = is.length
        · rw [if_pos ol] at q
          obtain ⟨f0, r0, n0, d0, fin⟩ := StT.calledIO hvl s3
          refine ⟨F2, f0, ios, freezeL as, vals, us, rfl, by omega, r0, rl, s3.same, n0, d0, ?_⟩
          rw [eg]
          intro v F' H' g' a1 a2 a3 a4 a5 a6 a7
          exact q v F' H' (StT.puts (fin F' H' v d outs g' a1 a2 a3 a4 a5 a6 a7) v1 ol v2)
        · rw [if_neg ol] at q; exact q.elim
  · rw [if_neg z] at p; exact p.elim
/-! ### a, b = x, y -/
def sPar (i j : Nat) (m : MA) : MS := fun τ => (m τ).s fun ds τ1 => match ds with
  | [x, y] => .nx ((τ1.set i (some x)).set j (some y))
  | _ => .bad
theorem s_par {i j : Nat} {x y : Str} {a b : Expr} {m : MA} {px py pt pos : Pos} {kt k2 pt2} (c : XOk X W) (hN : X.N.Nodup) (hi : X.N[i]? = some x) (hj : X.N[j]? = some y) (hij : i ≠ j)
    (hx : X.env.scope.names.lookup x = some .local) (hy : X.env.scope.names.lookup y = some .local) (ha : PA X [a, b] (rdA X.K B W m))
    (hw : swappedStores [.Tuple [.Name x px, .Name y py] kt pt] (.Tuple [a, b] k2 pt2) X.env = pure (some [x, y]) := by rfl)
    (hs : swapsWithSole [.Tuple [.Name x px, .Name y py] kt pt] (.Tuple [a, b] k2 pt2) pos.line X.env = pure false := by rfl)
    (h1 : ioFree B i := by first | (intro p hp; cases hp; done) | (intro p hp; simp only [List.mem_cons, List.not_mem_nil, or_false] at hp; rcases hp with rfl | rfl <;> simp) | (intro p hp; simp only [List.mem_cons, List.not_mem_nil, or_false] at hp; subst hp; simp))
    (h2 : ioFree B j := by first | (intro p hp; cases hp; done) | (intro p hp; simp only [List.mem_cons, List.not_mem_nil, or_false] at hp; rcases hp with rfl | rfl <;> simp) | (intro p hp; simp only [List.mem_cons, List.not_mem_nil, or_false] at hp; subst hp; simp)) :
    PS X (.Assign [.Tuple [.Name x px, .Name y py] kt pt] (.Tuple [a, b] k2 pt2) pos) (rdS X.K B W (sPar i j m)) :=
  PS.imp (ps_par c.calm hN hi hj hij hx hy ha hw hs) fun D σ H ⟨F, τ, vs, ds, s, p⟩ =>
    ⟨F, τ, vs, ds, s, post_imp (post_s (σ := σ) p) (fun es τ1 q us F1 H1 hl s1 => by
      match es, us, hl, s1, q with
      | [d1, d2], [v, w], _, s1, q =>
        refine ⟨v, w, rfl, ?_⟩
        have s2 : StT X.K B F1 H1 σ τ1 (v :: w :: vs) (d1 :: d2 :: ds) := s1
        exact q _ F1 H1 ((s2.put' h1).put' h2)
      | [], _, _, _, q => exact q.elim
      | [_], _, _, _, q => exact q.elim
      | _ :: _ :: _ :: _, _, _, _, q => exact q.elim) fun _ _ q => q⟩
/-! ### sorted, of ints -/
def insI (x : Int) : List Int → List Int
  | [] => [x]
  | y :: r => if x ≤ y then x :: y :: r else y :: insI x r
def sortI : List Int → List Int
  | [] => []
  | x :: r => insI x (sortI r)
theorem insI_perm (x : Int) : ∀ r : List Int, (insI x r).Perm (x :: r)
  | [] => List.Perm.refl _
  | y :: r => by
    unfold insI
    split
    · exact List.Perm.refl _
    · exact ((insI_perm x r).cons y).trans (List.Perm.swap x y r)
theorem sortI_perm : ∀ r : List Int, (sortI r).Perm r
  | [] => List.Perm.refl _
  | x :: r => (insI_perm x (sortI r)).trans ((sortI_perm r).cons x)
theorem insI_sorted (x : Int) : ∀ r : List Int, r.Pairwise (· ≤ ·) → (insI x r).Pairwise (· ≤ ·)
  | [], _ => by simp [insI]
  | y :: r, h => by
    obtain ⟨h1, h2⟩ := List.pairwise_cons.mp h
    unfold insI
    split
    · rename_i q
      refine List.pairwise_cons.mpr ⟨fun z hz => ?_, h⟩
      rcases List.mem_cons.mp hz with rfl | hz
      · exact q
      · exact Int.le_trans q (h1 z hz)
    · rename_i q
      refine List.pairwise_cons.mpr ⟨fun z hz => ?_, insI_sorted x r h2⟩
      rcases List.mem_cons.mp ((insI_perm x r).mem_iff.mp hz) with rfl | hz
      · omega
      · exact h1 z hz
theorem sortI_sorted : ∀ r : List Int, (sortI r).Pairwise (· ≤ ·)
  | [] => List.Pairwise.nil
  | x :: r => insI_sorted x _ (sortI_sorted r)
theorem sorted_eq : ∀ {a b : List Int}, a.Perm b → a.Pairwise (· ≤ ·) → b.Pairwise (· ≤ ·) → a = b
  | [], b, h, _, _ => h.nil_eq
  | x :: a, [], h, _, _ => absurd h.symm (by simp)
  | x :: a, y :: b, h, ha, hb => by
    obtain ⟨a1, a2⟩ := List.pairwise_cons.mp ha
    obtain ⟨b1, b2⟩ := List.pairwise_cons.mp hb
    have e : x = y := by
      have h1 : x ∈ y :: b := h.mem_iff.mp List.mem_cons_self
      have h2 : y ∈ x :: a := h.mem_iff.mpr List.mem_cons_self
      rcases List.mem_cons.mp h1 with e | e
      · exact e
      · rcases List.mem_cons.mp h2 with e2 | e2
        · exact e2.symm
        · have := b1 x e; have := a1 y e2; omega
    subst e
    rw [sorted_eq (List.Perm.cons_inv h) a2 b2]
def eSorted (m : MA) : ME := fun τ => (m τ).bind fun ds τ1 => match freezeL ds with
  | [.lst _ es] => (match intsOf es with
    | some ns => .ok (.lst true ((sortI ns).map D.int)) τ1
    | none => .bad)
  | _ => .bad
theorem repL_intsOf {K : PySem.W.Frag} {ca : Str → Addr} {F : Hp} : ∀ {es : List D} {us : List V} {ns : List Int}, RepL K ca F es us → intsOf es = some ns → us = ns.map V.int
  | [], us, ns, h, e => by
    cases (show some [] = some ns from e)
    exact h
  | d :: es, us, ns, ⟨v, r, e1, h1, h2⟩, e => by
    subst e1
    cases d with
    | int i =>
      cases e2 : intsOf es with
      | none =>
        unfold intsOf at e
        rw [e2] at e; cases e
      | some ms =>
        unfold intsOf at e
        rw [e2] at e
        cases (show some (i :: ms) = some ns from e)
        rw [repL_intsOf h2 e2, (show v = .int i from h1)]
        rfl
    | _ => cases e
theorem repL_int {K : PySem.W.Frag} {ca : Str → Addr} {F : Hp} : ∀ ns : List Int, RepL K ca F (ns.map D.int) (ns.map V.int)
  | [] => rfl
  | i :: r => ⟨.int i, r.map V.int, rfl, rfl, repL_int r⟩
theorem e_sorted {x : Str} {p pos : Pos} {e : Expr} {m : MA} (hg : Gl X x) (hm : X.mg x = none) (hv : bootBuiltins x = some (.builtin "sorted")) (ha : PA X [e] (rdA X.K B W m)) (hn : x ≠ "__name__" := by decide) (hdb : (x == ("__debug__" : Str)) = false := by decide)
    (he : starEach [e] X.env = (false, eval e X.env) :: starEach [] X.env := by rfl) (hpl : (backTo pos (starEach [] X.env)).any (·.1) = false := by rfl) : PE X (.Call (.Name x p) [e] [] pos) (rdE X.K B W (eSorted m)) := PE.imp (pe_callB cr_sortedI hg hm hv ha hn hdb he hpl) fun σ H Q ⟨F, τ, vs, ds, s, p⟩ => by
  refine ⟨F, τ, vs, ds, s, post_imp (post_bind p) (fun es τ1 q us F1 H1 hl s1 => ?_) fun _ _ q => q⟩
  obtain ⟨F2, sm, rl, s2⟩ := s1.freeze hl
  match h : freezeL es, q, rl with
  | [.lst b xs], q, rl =>
    obtain ⟨v, r, rfl, r1, r2⟩ := rl
    cases (show r = [] from r2)
    cases b with
    | true => exact r1.elim
    | false =>
      obtain ⟨a, ws, rfl, h1, h2⟩ := r1
      replace q : post _ _ (match intsOf xs with | some ns => R.ok (D.lst true ((sortI ns).map D.int)) τ1 | none => R.bad) := q
      cases ei : intsOf xs with
      | none => rw [ei] at q; exact q.elim
      | some ns =>
        rw [ei] at q
        have ew := repL_intsOf h2 ei
        subst ew
        refine ⟨a, ns, rfl, sqOf (s2.same _ _ h1), fun ns' l p1 p2 hp => ?_⟩
        have en : ns' = sortI ns := sorted_eq (p1.trans (sortI_perm ns).symm) p2 (sortI_sorted ns)
        subst en
        have hk : RepL X.K B.ca F2 ((sortI ns).map D.int) ((sortI ns).map V.int) := repL_int _
        exact q _ _ _ ((s2.pushL hk).newLst hk.length hp)
  | [], q, _ => exact q.elim
  | [.non], q, _ => exact q.elim
  | [.bl _], q, _ => exact q.elim
  | [.int _], q, _ => exact q.elim
  | [.str _], q, _ => exact q.elim
  | [.ty _], q, _ => exact q.elim
  | [.tup _], q, _ => exact q.elim
  | [.cst _], q, _ => exact q.elim
  | [.obj _ _ _ _], q, _ => exact q.elim
  | a :: _ :: _, q, _ => cases a <;> exact q.elim
/-! ### xs.index(x) -/
def findP (d : PyData) : List PyData → Nat → Option Nat
  | [], _ => none
  | z :: r, k => if PyData.eqv z d = true then some k else findP d r (k + 1)
theorem findP_ok {d : PyData} : ∀ {ds : List PyData} {k j : Nat}, findP d ds k = some j → k ≤ j ∧ (∃ z, ds[j - k]? = some z ∧ PyData.eqv z d = true) ∧ ∀ (m : Nat) (z : PyData), m < j - k → ds[m]? = some z → PyData.eqv z d = false
  | [], _, _, e => by cases e
  | z :: r, k, j, e => by
    unfold findP at e
    by_cases q : PyData.eqv z d = true
    · rw [if_pos q] at e
      cases e
      exact ⟨Nat.le_refl _, ⟨z, by simp, q⟩, fun m z h => by omega⟩
    · rw [if_neg q] at e
      obtain ⟨h1, ⟨w, h2, h3⟩, h4⟩ := findP_ok e
      refine ⟨by omega, ⟨w, ?_, h3⟩, fun m y hm hy => ?_⟩
      · rw [show j - k = (j - (k + 1)) + 1 by omega, List.getElem?_cons_succ]; exact h2
      · cases m with
        | zero => simp at hy; subst hy; simpa using q
        | succ m => exact h4 m y (by omega) (by simpa using hy)
def gIndex (b a : D) : Option D := match b with
  | .lst m xs => if okP a = true ∧ okP (.lst m xs) = true then (findP (toP a) (toPs xs) 0).map fun j => .int (j : Nat) else none
  | _ => none
theorem z_index {k : Nat} {o e : Expr} {apos cpos : Pos} {m n : MZ} (hr : Room k X.A) (ho : PE X o (rdZ X.K B m)) (he : PE X e (rdZ X.K B n))
    (hbase : attributeBase o "index" X.env (eval o X.env) = eval o X.env := by rfl)
    (hfew : ((backTo cpos (starEach [e] X.env)).all (fun x => !x.1) && (backToKw cpos (keywordEach [] X.env)).all (fun x => x.1.isSome)
      && decide ([e].length + ([] : List Keyword).length + (if ([] : List Keyword).isEmpty then 0 else 1) < 30)) = true := by rfl)
    (hline : (apos.endLine == cpos.line) = true := by rfl) (hs : starEach [e] X.env = (false, eval e X.env) :: starEach [] X.env := by rfl) (hplain : (backTo cpos (starEach [] X.env)).any (·.1) = false := by rfl) :
    PE X (.Call (.Attribute o "index" apos) [e] [] cpos) (rdZ X.K B (z2 gIndex m n)) :=
  PE.imp (pe_bm PySem.F.plainAttrs_list PySem.F.slot_list_index PySem.F.type_list_index (mt_indexD (units65 hr)) ho (pa_cons he pa_nil hs) hbase hfew hline hs hplain) fun σ H Q ⟨F, τ, vs, ds, s, d, e, q⟩ => by
    obtain ⟨b, eb, e⟩ := bind_some e
    obtain ⟨a, ea, e⟩ := bind_some e
    refine ⟨F, τ, vs, ds, s, b, eb, fun x f1 hx => ?_⟩
    cases b with
    | lst mm xs =>
      replace e : (if okP a = true ∧ okP (.lst mm xs) = true then (findP (toP a) (toPs xs) 0).map (fun j => D.int (j : Nat)) else none) = some d := e
      by_cases c : okP a = true ∧ okP (.lst mm xs) = true
      · rw [if_pos c] at e
        cases ef : findP (toP a) (toPs xs) 0 with
        | none => rw [ef] at e; cases e
        | some j =>
          rw [ef] at e
          cases e
          have c1 := c.1
          have c2 := c.2
          unfold okP at c1 c2
          rw [Bool.and_eq_true] at c1 c2
          have hD := RepO.dp (K := X.K) s.same _ x f1 c2.1 hx
          have hx' : ∃ a us, x = .ref a ∧ SqL X.K H a us := by
            cases mm with
            | true => obtain ⟨a, us, g, rfl, h2, _⟩ := hx; exact ⟨a, us, rfl, sqOf h2⟩
            | false => obtain ⟨⟨a, us, rfl, h2, _⟩, _⟩ := hx; exact ⟨a, us, rfl, sqOf (s.same _ _ h2)⟩
          obtain ⟨ad, us, rfl, hsq⟩ := hx'
          refine ⟨.inl ⟨rfl, us, hsq⟩, F, τ, vs, ds, s, a, ea, fun y f2 hy => ?_⟩
          obtain ⟨_, ⟨z, k1, k2⟩, k3⟩ := findP_ok ef
          exact ⟨ad, y, toP a, toPs xs, j, z, rfl, rfl, hD, RepO.dp s.same a y f2 c1.1 hy, c2.2, c1.2, k1, k2, k3, q (.int (j : Nat)) _ (Rep.o (d := .int (j : Nat)) rfl)⟩
      · rw [if_neg c] at e; cases e
    | _ => cases e
/-! ### products by a small number -/
instance decCMul {i j : Int} : Decidable (CMul i j) := by unfold CMul; infer_instance
def gMulS : D → D → Option D := gIC CMul fun i j => .int (i * j)
theorem sMulS {K : PySem.W.Frag} : OpS K (rI CMul fun i j => .int (i * j)) gMulS := opS_IC fun _ _ _ _ => rfl
/-! ### is, of truths -/
def gIsB : D → D → Option D
  | .bl a, .bl b => some (.bl (decide (a = b)))
  | _, _ => none
theorem sIsB {K : PySem.W.Frag} : OpS K (fun x y H Q => ∃ a b, x = .bl a ∧ y = .bl b ∧ Q (.bl (decide (a = b))) H) gIsB := by
  intro ca F H x y a b d f1 f2 Q sm hx hy e q
  cases a with
  | bl i => cases b with
    | bl j =>
      cases (show some (D.bl (decide (i = j))) = some d from e)
      exact ⟨i, j, hx.1, hy.1, q (.bl _) _ (Rep.o (d := .bl _) rfl)⟩
    | _ => cases e
  | _ => cases e
end
end Bn

/-! list(reversed(xs)); clear, pop, insert. -/
namespace Bn
open PySem PySem.Spec PyProof.Rows L2
section
variable {prog : Program} {w : World} {A : Around} {E : Value → Shared → Prop} {s : Shared}
theorem extend_rev {R : Result → Shared → Prop} (hh : A.handled = none) {it l S : Addr} {items : Array Value} (res : Value) (c₀ : Nat) (hS : s.heap.get? S = some { cls := .type "list", data := .seq #[] c₀ })
    (hit : s.heap.IsRevIter it l ((items.size : Int) - 1)) (hl : s.heap.IsList l items) (hne : l ≠ it) (hSi : S ≠ it) (hSl : S ≠ l) (hn : items.size ≤ sizeLine)
    (hR : ∀ h' tk acc' c', (∀ b o, b ≠ S → b ≠ it → s.heap.get? b = some o → h'.get? b = some o) → h'.get? S = some { cls := .type "list", dict := none, data := .seq acc' c', slots := #[] } →
      ItemsOf (fun i v => items[items.size - 1 - i]? = some v) acc' items.size → R (.ok (.ret res)) { s with heap := h', toks := tk }) :
    wpAny (model prog w) A.in1 (Builtin.List.listExtendWith (.ref S) (.ref it) res)
      (fun fin s' => match fin with | .done f => R (.ok f) s' | .again c' => c'.quiet = true ∧ codeAny (model prog w) A c' R s') (fun e s' => R (.error e) s') s := by
  have W := (Walks.listRev (prog := prog) (w := w) (A := A.in1) hh it l hne items).toS
  have hSf : S ∉ [it, l] := by simp only [List.mem_cons, List.not_mem_nil, or_false, not_or]; exact ⟨hSi, hSl⟩
  have hT : s.TypeIs (.ref it) "list_reverseiterator" := Heap.IsRevIter.typeIs hit
  have h1 : Builtin.List.listSameRef (.ref S) (.ref it) = false := by simp [Builtin.List.listSameRef, hSi]
  unfold Builtin.List.listExtendWith
  refine wpAny_bind (wpAny_typeOf hT ?_)
  rw [if_neg (by rw [h1]; decide)]
  refine wpAny_bind (wpAny_pyIter_revIter hit ?_)
  refine wpAny_bind (wpAny_holding ?_)
  unfold Builtin.List.listLengthHint
  refine wpAny_bind (wpAny_specialOf hT RT.nolen_lri ?_)
  show wpAny _ A.in1 (specialOf (Value.ref it) (Str.ofString "__length_hint__") >>= _) _ _ _
  refine wpAny_bind (wpAny_specialOf hT RT.hint_lri ?_)
  generalize hid : ("list_reverseiterator.__length_hint__" : String) = id0
  wp_delta
  rw [show splitId id0 = some ("list_reverseiterator", "__length_hint__") from by subst hid; decide +kernel]
  subst hid
  refine wpAny_bind (wpAny_isInstance (b := true) hT (by rw [isSubtype_type]; kernel_rfl) ?_)
  refine wpAny_pure ?_
  rw [if_neg (by decide)]
  have e0 : ((items.size : Nat) : Int) - 1 - ((0 : Nat) : Int) = (items.size : Int) - 1 := by omega
  refine wpAny_pure ⟨plainId_quiet F.plain_extend_loop _, codeAny_extend_loopS W hn _ hSf _ items.size 0 _ _ _ rfl (Nat.zero_le _) ⟨Nat.zero_le _, by rw [e0]; exact hit, hl⟩ hS (ItemsOf.nil _) fun s' acc' c' hm hS' hacc => ?_⟩
  rw [Moved.eq_with hm]
  obtain ⟨ol, hol, _⟩ := id hl
  refine hR s'.heap s'.toks acc' c' (fun b o hb hbi e => hm.heap b o (fun hmem => ?_) e) hS' hacc
  rcases List.mem_cons.mp hmem with e' | hmem
  · exact hb e'
  · exact hbi (List.mem_singleton.mp hmem)
theorem list_init_rev {R : Result → Shared → Prop} (hh : A.handled = none) {it l S : Addr} {items : Array Value} (hS : s.heap.get? S = some { cls := .type "list", data := .seq #[] })
    (hit : s.heap.IsRevIter it l ((items.size : Int) - 1)) (hl : s.heap.IsList l items) (hne : l ≠ it) (hSi : S ≠ it) (hSl : S ≠ l) (hn : items.size ≤ sizeLine)
    (hR : ∀ h' tk acc' c', (∀ b o, b ≠ S → b ≠ it → s.heap.get? b = some o → h'.get? b = some o) → h'.get? S = some { cls := .type "list", dict := none, data := .seq acc' c', slots := #[] } →
      ItemsOf (fun i v => items[items.size - 1 - i]? = some v) acc' items.size → R (.ok (.ret .none)) { s with heap := h', toks := tk }) :
    wpAny (model prog w) A.in1 (Builtin.«list.__init__» ⟨[.ref S, .ref it], []⟩)
      (fun fin s' => match fin with | .done f => R (.ok f) s' | .again c' => c'.quiet = true ∧ codeAny (model prog w) A c' R s') (fun e s' => R (.error e) s') s := by
  show wpAny _ _ (do let old ← Builtin.List.listItems (.ref S); Builtin.List.listUpdate (.ref S) (fun _ => #[]); letGo old.toList.reverse; Builtin.List.listExtendWith (.ref S) (.ref it) .none) _ _ s
  refine wpAny_bind ?_
  unfold Builtin.List.listItems
  refine wpAny_bind (wpAny_seqItems hS rfl (wpAny_pure ?_))
  show wpAny _ _ (updateSeq S (fun _ => #[]) >>= fun _ => letGo (#[] : Array Value).toList.reverse >>= fun _ => Builtin.List.listExtendWith (.ref S) (.ref it) .none) _ _ s
  refine wpAny_bind (wpAny_updateSeq hS rfl ?_)
  have hS₂ := Heap.get?_update_self (Obj.mapSeq (fun _ => (#[] : Array Value))) hS rfl
  have oth : ∀ b o, b ≠ S → s.heap.get? b = some o → (s.heap.update S (Obj.mapSeq (fun _ => (#[] : Array Value)))).get? b = some o :=
    fun b o hb e => (Heap.get?_update_other _ _ (Ne.symm hb)).trans e
  refine wpAny_bind (wpAny_letGo ?_)
  obtain ⟨oi, hoi, ci, di⟩ := id hit
  obtain ⟨ol, hol, cl, nl, dl⟩ := id hl
  refine extend_rev (s := { s with heap := s.heap.update S (Obj.mapSeq (fun _ => (#[] : Array Value))) }) hh .none _ hS₂ ⟨oi, oth _ _ (Ne.symm hSi) hoi, ci, di⟩ ⟨ol, oth _ _ (Ne.symm hSl) hol, cl, nl, dl⟩ hne hSi hSl hn fun h' tk acc' c' hk hS' hacc => ?_
  exact hR h' tk acc' c' (fun b o hb hbi e => hk b o hb hbi (oth b o hb e)) hS' hacc
theorem call_list_rev {it l : Addr} {items : Array Value} {Q : Value → Shared → Prop} (hh : A.handled = none) (hit : s.heap.IsRevIter it l ((items.size : Int) - 1)) (hl : s.heap.IsList l items) (hne : l ≠ it) (hn : items.size ≤ sizeLine)
    (hQ : ∀ h' tk acc' c', (∀ b o, b ≠ it → s.heap.get? b = some o → h'.get? b = some o) →
      h'.get? s.heap.objs.size = some { cls := .type "list", dict := none, data := .seq acc' c', slots := #[] } → ItemsOf (fun i v => items[items.size - 1 - i]? = some v) acc' items.size → Q (.ref s.heap.objs.size) { s with heap := h', toks := tk }) :
    wpAny (model prog w) A (call (.type "list") [.ref it]) Q E s := by
  refine callType_codes (Q₁ := fun obj s₁ => obj = .ref s.heap.objs.size ∧ s₁ = { s with heap := s.heap.push { cls := .type "list", data := .seq #[] } }) PySem.F.called_list (PySem.F.typeCall_list_1 _) PySem.F.entry_list_init
    (code_list_new _ ⟨rfl, rfl⟩) fun obj s₁ h₁ => ?_
  obtain ⟨rfl, rfl⟩ := h₁
  have hS : (s.heap.push { cls := .type "list", data := .seq #[] }).get? s.heap.objs.size = some { cls := .type "list", data := .seq #[] } := Heap.get?_push_size _ rfl
  obtain ⟨oi, hoi, ci, di⟩ := id hit
  obtain ⟨ol, hol, cl, nl, dl⟩ := id hl
  refine ⟨⟨_, hS, rfl⟩, PySem.F.args_list_init_2 _ _, list_init_rev (s := { s with heap := s.heap.push { cls := .type "list", data := .seq #[] } }) (A := A.in1) hh hS ⟨oi, Heap.get?_push_of_some _ hoi, ci, di⟩ (hl.push _) hne (Nat.ne_of_gt (Heap.lt_size hoi)) (Nat.ne_of_gt (Heap.lt_size hol)) hn (fun h' tk acc' c' hk hS' hacc => ?_)⟩
  exact ⟨rfl, hQ h' tk acc' c' (fun b o hb e => hk b o (Nat.ne_of_lt (Heap.lt_size e)) hb (Heap.get?_push_of_some _ e)) hS' hacc⟩
end
/-- list(reversed(x)), x a list: a new list -/
def tLstRev (K : PySem.W.Frag) (te : TE) : TE := fun σ H Q => te σ H fun v H1 => ∃ (a : Addr) (xs : List V), v = .ref a ∧ SqL K H1 a xs ∧ ∀ q, H1 q = none → Q (.ref q) (upd H1 q (.lst xs.reverse))
section
variable {X : Cx}
theorem pe_lstRev {e : Expr} {te : TE} {p p2 pos pos2 : Pos} (hc : X.calm = true) (hg : Gl X "list") (hm : X.mg "list" = none) (hg2 : Gl X "reversed") (hm2 : X.mg "reversed" = none) (he : PE X e te)
    (hs : starEach [e] X.env = (false, eval e X.env) :: starEach [] X.env := by rfl)
    (hs2 : starEach [.Call (.Name "reversed" p2) [e] [] pos2] X.env = (false, eval (.Call (.Name "reversed" p2) [e] [] pos2) X.env) :: starEach [] X.env := by rfl) :
    PE X (.Call (.Name "list" p) [.Call (.Name "reversed" p2) [e] [] pos2] [] pos) (tLstRev X.K te) := by
  refine ⟨fun pins s σ H Q I h => ?_⟩
  refine Call_ (ld_blt I hg hm boot_list (PyProof.Rows.callWith_type1 (args_cons (Call_ (ld_blt I hg2 hm2 PyProof.Rows.boot_reversed (PyProof.Rows.callWith_type1 (args_cons (thn (he.run pins s σ H _ I h) fun u s1 ⟨v, H1, I1, r1, q1⟩ => args_nil ?_) hs) hs rfl))) hs2) hs2 rfl))
  obtain ⟨a, xs, ev, hq, q⟩ := q1
  subst ev
  obtain rfl : u = Value.ref a := r1
  obtain ⟨its, rv, p', hz⟩ := I1.list hq
  refine call_reversed_list p'.isList (args_nil ?_)
  have k0 : ∀ b o, s1.heap.get? b = some o → (s1.heap.push (revObj a ((its.toArray.size : Int) - 1))).get? b = some o := fun b o e => Heap.get?_push_of_some _ e
  have I2 : Inv X pins σ H1 { s1 with heap := s1.heap.push (revObj a ((its.toArray.size : Int) - 1)) } := I1.kept (t' := s1.toks) k0
  obtain ⟨f0, f1, f2, f3, f4, f5⟩ := I1.fpOk (H' := H1) (b := s1.heap.objs.size) (Nat.le_refl _) (I1.hok.fresh (Nat.le_refl _))
  have hl := p'.isList
  obtain ⟨ol, hol, _⟩ := id hl
  have hne : a ≠ s1.heap.objs.size := Nat.ne_of_lt (Heap.lt_size hol)
  have hn : its.toArray.size ≤ sizeLine := by rw [List.size_toArray, ← rv.length]; exact hz
  refine call_list_rev (s := { s1 with heap := s1.heap.push (revObj a ((its.toArray.size : Int) - 1)) }) (I1.ok.hd hc) ⟨_, Heap.get?_push_size _ rfl, rfl, rfl⟩ (hl.push _) hne hn fun h' tk acc c' hk hS' hi => ?_
  have hle : s1.heap.objs.size ≤ (s1.heap.push (revObj a ((its.toArray.size : Int) - 1))).objs.size := by
    show s1.heap.objs.size ≤ (s1.heap.objs.push _).size
    rw [Array.size_push]; omega
  refine ⟨.ref (s1.heap.push (revObj a ((its.toArray.size : Int) - 1))).objs.size, upd H1 (s1.heap.push (revObj a ((its.toArray.size : Int) - 1))).objs.size (.lst xs.reverse), I1.laid (t' := tk) (fun b o e => hk b o (Nat.ne_of_lt (Heap.lt_size e)) (k0 b o e)) hle (show ObjOk X.prog X.w _ h' _ (.lst xs.reverse) from ⟨by rw [List.length_reverse]; exact hz, acc.toList, c', RT.vals_rev rv hi, ?_⟩), rfl, q _ (I1.hok.fresh hle)⟩
  rw [Array.toArray_toList]
  exact hS'
end

section
variable {X : Cx} {B : Bx} {W : WX}
def eLstRev (m : ME) : ME := fun τ => (m τ).bind fun d τ1 => match freeze d with
  | .lst _ es => .ok (.lst true es.reverse) τ1
  | _ => .bad
theorem RepL.app {K : PySem.W.Frag} {ca : Str → Addr} {F : Hp} : ∀ {ds es : List D} {vs us : List V}, RepL K ca F ds vs → RepL K ca F es us → RepL K ca F (ds ++ es) (vs ++ us)
  | [], es, vs, us, h, k => by cases (show vs = [] from h); exact k
  | d :: ds, es, _, us, ⟨v, r, h1, h2, h3⟩, k => by subst h1; exact ⟨v, r ++ us, rfl, h2, h3.app k⟩
theorem RepL.rev {K : PySem.W.Frag} {ca : Str → Addr} {F : Hp} : ∀ {ds : List D} {vs : List V}, RepL K ca F ds vs → RepL K ca F ds.reverse vs.reverse
  | [], vs, h => by cases (show vs = [] from h); exact rfl
  | d :: ds, _, ⟨v, r, h1, h2, h3⟩ => by
    subst h1
    rw [List.reverse_cons, List.reverse_cons]
    exact h3.rev.app ⟨v, [], rfl, h2, rfl⟩
theorem e_lstRev {e : Expr} {p p2 pos pos2 : Pos} {m : ME} (c : XOk X W) (hg : Gl X "list") (hm : X.mg "list" = none) (hg2 : Gl X "reversed") (hm2 : X.mg "reversed" = none) (he : PE X e (rdE X.K B W m))
    (hs : starEach [e] X.env = (false, eval e X.env) :: starEach [] X.env := by rfl)
    (hs2 : starEach [.Call (.Name "reversed" p2) [e] [] pos2] X.env = (false, eval (.Call (.Name "reversed" p2) [e] [] pos2) X.env) :: starEach [] X.env := by rfl) :
    PE X (.Call (.Name "list" p) [.Call (.Name "reversed" p2) [e] [] pos2] [] pos) (rdE X.K B W (eLstRev m)) := PE.imp (pe_lstRev c.calm hg hm hg2 hm2 he hs hs2) fun σ H Q ⟨F, τ, vs, ds, s, p⟩ => by
  refine ⟨F, τ, vs, ds, s, post_imp (post_bind p) (fun d τ1 q v F1 H1 s1 => ?_) fun _ _ q => q⟩
  obtain ⟨F2, sm, ⟨v', r, e1, rl, _⟩, s2⟩ := StT.freeze (us := [v]) (es := [d]) s1 rfl
  cases e1
  match h : freeze d, q, rl with
  | .lst b xs, q, rl =>
    cases b with
    | true => exact rl.elim
    | false =>
      obtain ⟨a, ws, rfl, h1, h2⟩ := rl
      exact ⟨a, ws, rfl, sqOf (s2.same _ _ h1), fun l hl => q _ _ _ ((s2.pushL h2.rev).newLst h2.rev.length hl)⟩
/-! ### clear -/
def sClear (i : Nat) : MS := fun τ => match τ.getD i none with
  | some (.lst true _) => .nx (τ.set i (some (.lst true [])))
  | _ => .bad
theorem s_clear {i : Nat} {o : Expr} {apos cpos pos : Pos} (ho : PE X o (tVar i))
    (hbase : attributeBase o "clear" X.env (eval o X.env) = eval o X.env := by rfl) (hline : (apos.endLine == cpos.line) = true := by rfl)
    (hsw : swapsWith (.Call (.Attribute o "clear" apos) [] [] cpos) none pos.line X.env = pure false := by rfl) : PS X (.Expr (.Call (.Attribute o "clear" apos) [] [] cpos) pos) (rdS X.K B W (sClear i)) :=
  PS.imp (ps_expr (pe_bm0 PySem.F.plainAttrs_list PySem.F.slot_list_clear PySem.F.type_list_clear mt_clear ho hbase hline) hsw) fun D σ H ⟨F, τ, vs, ds, s, p⟩ => by
    unfold sClear at p
    split at p
    · rename_i es e0
      have e0' := getD_some e0
      obtain ⟨v, k1, s2⟩ := s.take e0'
      obtain ⟨f, a, us, g, rfl, hx, hg, _⟩ := s2.top
      refine ⟨.ref a, k1, .inl ⟨rfl, us, sqOf hx⟩, a, us, rfl, rfl, hx, ?_⟩
      have s3 := StT.change (us := []) (ds := []) (ys := []) (es2 := []) s2 rfl hx fun g1 g2 r1 r2 => ⟨fun _ => 0, ⟨rfl, fun _ => rfl⟩, fun b => Nat.zero_le _⟩
      have s4 := s3.putBack (i := i) (by rw [List.length_set]; exact (List.getElem?_eq_some_iff.mp e0').1) k1
      rw [List.set_set] at s4
      exact p σ F _ s4
    · exact p.elim
/-! ### for y in xs: y.clear() -/
def isOwnL : D → Bool
  | .lst true _ => true
  | _ => false
theorem RepOs.clr {K : PySem.W.Frag} {ca : Str → Addr} {F H : Hp} : ∀ {es : List D} {us : List V} {g : Ct} {k : Nat} {ws : List D}, RepOs K ca F H es us g → es[k]? = some (.lst true ws) → (∀ a, g a ≤ 1) →
    ∃ b vs, us[k]? = some (.ref b) ∧ H b = some (.lst vs) ∧ 0 < g b ∧ ∃ g', RepOs K ca F (upd H b (.lst [])) (es.set k (.lst true [])) us g' ∧ ∀ x, g' x ≤ g x
  | [], _, _, _, _, _, e, _ => by simp at e
  | d :: es, _, g, 0, ws, ⟨v, r, f1, f2, e, h1, h2, h3⟩, hd, nd => by
    subst e
    have : d = .lst true ws := by simpa using hd
    subst this
    obtain ⟨b, vs, g1, rfl, hx, hg, q⟩ := h1
    have f1b : f1 b = 1 + g1 b := by rw [q, if_pos rfl]
    have one := nd b
    rw [h3, f1b] at one
    refine ⟨b, vs, rfl, hx, by rw [h3, f1b]; omega, fun x => (if x = b then 1 else 0) + f2 x, ?_, fun x => ?_⟩
    · refine ⟨.ref b, r, fun x => if x = b then 1 else 0, f2, rfl, ⟨b, [], fun _ => 0, rfl, upd_same, ⟨rfl, fun _ => rfl⟩, fun x => rfl⟩, RepOs.mono (Same.refl _) _ _ _ (fun x hx => upd_ne fun e => ?_) h2, fun _ => rfl⟩
      subst e; omega
    · show (if x = b then 1 else 0) + f2 x ≤ g x
      rw [h3, q]; omega
  | d :: es, _, g, k + 1, ws, ⟨v, r, f1, f2, e, h1, h2, h3⟩, hd, nd => by
    subst e
    obtain ⟨b, vs, k1, k2, k3, g', k4, k5⟩ := RepOs.clr (k := k) (ws := ws) h2 (by simpa using hd) (fun a => by have := nd a; rw [h3] at this; omega)
    have one := nd b
    rw [h3] at one
    refine ⟨b, vs, by simpa using k1, k2, by rw [h3]; omega, fun x => f1 x + g' x, ⟨v, r, f1, g', rfl, RepO.mono (Same.refl _) _ _ _ (fun x hx => upd_ne fun e => ?_) h1, k4, fun _ => rfl⟩, fun x => by show f1 x + g' x ≤ g x; rw [h3]; have := k5 x; omega⟩
    subst e; omega
theorem StT.clr {K : PySem.W.Frag} {F H : Hp} {σ : L2.St} {τ : Env} {vs : List V} {es ds ws : List D} {a : Addr} {k : Nat} (s : StT K B F H σ τ (.ref a :: vs) (.lst true es :: ds)) (hk : es[k]? = some (.lst true ws)) :
    ∃ us b xs, H a = some (.lst us) ∧ us[k]? = some (.ref b) ∧ H b = some (.lst xs) ∧ StT K B F (upd H b (.lst [])) σ τ (.ref a :: vs) (.lst true (es.set k (.lst true [])) :: ds) := by
  obtain ⟨f1, f2, A, ⟨_, _, g1, g2, e, h, b2, q⟩, w, io⟩ := s
  cases e
  obtain ⟨a', us, g3, e', hx, h3, q3⟩ := h
  cases e'
  have tot : ∀ x, f1 x + f2 x = f1 x + ((if x = a then 1 else 0) + g3 x + g2 x) := fun x => by rw [q, q3]
  have nd : ∀ x, f1 x + ((if x = a then 1 else 0) + g3 x + g2 x) ≤ 1 := fun x => by rw [← tot]; exact w.nd x
  obtain ⟨b, xs, k1, k2, k3, g', k4, k5⟩ := RepOs.clr h3 hk fun x => by have := nd x; omega
  have nb := nd b
  have hba : a ≠ b := fun e => by subst e; rw [if_pos rfl] at nb; omega
  rw [if_neg (fun e => hba e.symm)] at nb
  have off : ∀ {φ : Ct}, φ b = 0 → ∀ x, 0 < φ x → upd H b (.lst []) x = H x := fun {φ} hz x hx => upd_ne fun e => by rw [e, hz] at hx; omega
  have fb : F b = none := w.dF b (by show 0 < f1 b + f2 b; rw [tot]; omega)
  have rb : B.R b = none := w.dR b (by show 0 < f1 b + f2 b; rw [tot]; omega)
  refine ⟨us, b, xs, hx, k1, k2, f1, fun x => ((if x = a then 1 else 0) + g' x) + g2 x, A.mono (Same.refl _) (off (by omega)), ⟨.ref a, vs, fun x => (if x = a then 1 else 0) + g' x, g2, rfl, ⟨a, us, g', rfl, (upd_ne hba).trans hx, k4, fun _ => rfl⟩, RepOs.mono (Same.refl _) _ _ _ (off (by omega)) b2, fun _ => rfl⟩, ?_, io⟩
  have w2 : Wd B F H (fun x => f1 x + (((if x = a then 1 else 0) + g' x) + g2 x)) := w.less fun x => by
    show f1 x + (((if x = a then 1 else 0) + g' x) + g2 x) ≤ f1 x + f2 x
    have := tot x; have := k5 x; omega
  exact ⟨w2.nd, w2.dF, w2.dR, fun x o e => by rw [upd_ne (ne_of_none e fb)]; exact w.sF x o e, fun x o e => by rw [upd_ne (ne_of_none e rb)]; exact w.sR x o e, w.s0, w.fr⟩
def clrL (k : Nat) (es : List D) : List D := List.replicate k (.lst true []) ++ es.drop k
theorem clrL_set {k : Nat} {es : List D} (h : k < es.length) : (clrL k es).set k (.lst true []) = clrL (k + 1) es := by
  unfold clrL
  rw [List.set_append_right _ _ (by simp), List.length_replicate, Nat.sub_self, List.drop_eq_getElem_cons h, List.set_cons_zero, List.replicate_succ', List.append_assoc]
  rfl
theorem clrL_get {k : Nat} {es : List D} (h : k < es.length) : (clrL k es)[k]? = some es[k] := by
  unfold clrL
  rw [List.getElem?_append_right (by simp), List.length_replicate, Nat.sub_self, List.drop_eq_getElem_cons h]
  rfl
theorem clrL_length {k : Nat} {es : List D} (h : k ≤ es.length) : (clrL k es).length = es.length := by
  unfold clrL
  rw [List.length_append, List.length_replicate, List.length_drop]; omega
def sClearEach (i j : Nat) : MS := fun τ => match τ.getD i none with
  | some (.lst true es) => if es.all isOwnL = true ∧ j < τ.length then .nx ((τ.set j none).set i (some (.lst true (clrL es.length es)))) else .bad
  | _ => .bad
theorem s_clearEach {i j : Nat} {y : Str} {it o : Expr} {py apos cpos epos pos : Pos} (c : XOk X W) (hN : X.N.Nodup) (hj : X.N[j]? = some y) (hx : Loc X.env.scope y) (hij : i ≠ j) (hi : PE X it (tVar i)) (ho : PE X o (tVar j))
    (hio : ioFree B j := by first | (intro p hp; cases hp; done) | (intro p hp; simp only [List.mem_cons, List.not_mem_nil, or_false] at hp; rcases hp with rfl | rfl <;> simp) | (intro p hp; simp only [List.mem_cons, List.not_mem_nil, or_false] at hp; subst hp; simp))
    (hf : X.fn y = true ∨ X.env.scope.names.lookup y = some .local := by first | exact .inl rfl | exact .inr rfl | assumption)
    (hbase : attributeBase o "clear" X.env (eval o X.env) = eval o X.env := by rfl) (hline : (apos.endLine == cpos.line) = true := by rfl)
    (hsw : swapsWith (.Call (.Attribute o "clear" apos) [] [] cpos) none epos.line X.env = pure false := by rfl) (hs : ∀ x, foldedSetIterable it X.env x = pure x := by intro _; rfl) :
    PS X (.For (.Name y py) it [.Expr (.Call (.Attribute o "clear" apos) [] [] cpos) epos] [] pos) (rdS X.K B W (sClearEach i j)) :=
  PS.imp (ps_for c.hp c.calm (pi_list hi) (pg_name hN hj hx hf) (pss_one (ps_expr (pe_bm0 PySem.F.plainAttrs_list PySem.F.slot_list_clear PySem.F.type_list_clear mt_clear ho hbase hline) hsw)) hs) fun D σ H ⟨F, τ, vs, ds, s, p⟩ => by
    unfold sClearEach at p
    split at p
    · rename_i es e0
      have e0' := getD_some e0
      by_cases hall' : es.all isOwnL = true ∧ j < τ.length
      · rw [if_pos hall'] at p
        obtain ⟨hall, hjl⟩ := hall'
        have sl := s.len
        obtain ⟨v, k1, s2⟩ := (s.forget (i := j)).take (i := i) (d := .lst true es) (by rw [List.getElem?_set_ne (fun e => hij e.symm)]; exact e0')
        obtain ⟨f, a, us, g, rfl, hx0, hg, _⟩ := s2.top
        refine ⟨.ref a, k1, a, rfl, ⟨us, sqOf hx0⟩, fun k m σ H => m = es.length - k ∧ k ≤ es.length ∧ σ[i]? = some (some (.ref a)) ∧ j < σ.length ∧ StT X.K B F H σ ((τ.set j none).set i none) (.ref a :: vs) (.lst true (clrL k es) :: ds), ⟨_, rfl, Nat.zero_le _, k1, ?_, s2⟩, ?_⟩
        · rw [sl]; exact hjl
        · rintro k m σ1 H1 ⟨rfl, hk, q1, q2, s1⟩
          by_cases hlt : k < es.length
          · obtain ⟨ws, hws⟩ : ∃ ws, es[k] = .lst true ws := by
              have := List.all_eq_true.mp hall es[k] (List.getElem_mem hlt)
              cases h : es[k] with
              | lst m xs => cases m with
                | true => exact ⟨xs, rfl⟩
                | false => rw [h] at this; cases this
              | _ => rw [h] at this; cases this
            have hget := clrL_get hlt
            rw [hws] at hget
            obtain ⟨us1, b, xs, y1, y2, y3, s3⟩ := s1.clr hget
            rw [clrL_set hlt] at s3
            refine .inr ⟨⟨us1, _, sqOf y1, y2⟩, fun σ' H' => σ'[i]? = some (some (.ref a)) ∧ j < σ'.length ∧ StT X.K B F H' σ' ((τ.set j none).set i none) (.ref a :: vs) (.lst true (clrL (k + 1) es) :: ds), fun σ' H' ⟨z1, z2, z3⟩ => ⟨es.length - (k + 1), by omega, rfl, hlt, z1, z2, z3⟩, fun x H' hy => ?_⟩
            obtain ⟨rfl, hy⟩ := hy
            have hxb := hy us1 (sqOf y1)
            rw [y2] at hxb
            cases hxb
            refine ⟨.ref b, by rw [List.getElem?_set_self q2], .inl ⟨rfl, xs, sqOf y3⟩, b, xs, rfl, rfl, y3, ?_, by rw [List.length_set]; exact q2, ?_⟩
            · rw [List.getElem?_set_ne (fun e => hij e.symm)]; exact q1
            · refine s3.reset (by rw [List.length_set]) (fun j' d hd => ?_) (fun q hq => ?_)
              · rw [List.getElem?_set_ne]
                intro e
                subst e
                rw [List.getElem?_set_ne hij] at hd
                rw [List.getElem?_set_self'] at hd
                cases h : τ[j]? with
                | none => rw [h] at hd; cases hd
                | some z => rw [h] at hd; cases hd
              · obtain ⟨_, _, _, _, _, io⟩ := s1
                rw [List.getElem?_set_ne (fun e => hio q hq (by rw [e]))]
                exact io q hq
          · have e : k = es.length := by omega
            subst e
            obtain ⟨f, a', us, g, ea, y1, y2, _⟩ := s1.top
            cases ea
            refine .inl ⟨⟨us, sqOf y1, by rw [y2.length, clrL_length hk]; exact Nat.le_refl _⟩, ?_⟩
            have s4 := s1.putBack (i := i) (by rw [List.length_set, List.length_set]; exact (List.getElem?_eq_some_iff.mp e0').1) q1
            rw [List.set_set] at s4
            exact p σ1 F _ s4
      · rw [if_neg hall'] at p; exact p.elim
    · exact p.elim
/-! ### pop, insert -/
theorem RepOs.eraseI {K : PySem.W.Frag} {ca : Str → Addr} {F H : Hp} : ∀ {es : List D} {us : List V} {g : Ct} (k : Nat), RepOs K ca F H es us g → ∃ g', RepOs K ca F H (es.eraseIdx k) (us.eraseIdx k) g' ∧ ∀ x, g' x ≤ g x
  | [], us, g, k, h => by
    have h0 : us = [] := h.1
    subst h0
    exact ⟨g, h, fun _ => Nat.le_refl _⟩
  | d :: es, _, g, 0, ⟨v, r, f1, f2, e, h1, h2, h3⟩ => by
    subst e
    exact ⟨f2, h2, fun x => by rw [h3]; omega⟩
  | d :: es, _, g, k + 1, ⟨v, r, f1, f2, e, h1, h2, h3⟩ => by
    subst e
    obtain ⟨g', k1, k2⟩ := RepOs.eraseI k h2
    exact ⟨fun x => f1 x + g' x, ⟨v, _, f1, g', rfl, h1, k1, fun _ => rfl⟩, fun x => by show f1 x + g' x ≤ g x; rw [h3]; have := k2 x; omega⟩
theorem RepOs.insI {K : PySem.W.Frag} {ca : Str → Addr} {F H : Hp} {d0 : D} {v0 : V} {f0 : Ct} (h0 : RepO K ca F H d0 v0 f0) : ∀ {es : List D} {us : List V} {g : Ct} (k : Nat), RepOs K ca F H es us g → ∃ g', RepOs K ca F H (es.take k ++ [d0] ++ es.drop k) (us.take k ++ [v0] ++ us.drop k) g' ∧ ∀ x, g' x ≤ g x + f0 x
  | es, us, g, 0, h => by
    refine ⟨fun x => f0 x + g x, ?_, fun x => by show f0 x + g x ≤ g x + f0 x; omega⟩
    simp only [List.take_zero, List.drop_zero, List.nil_append, List.singleton_append]
    exact ⟨v0, us, f0, g, rfl, h0, h, fun _ => rfl⟩
  | [], us, g, k + 1, h => by
    have e : us = [] := h.1
    subst e
    refine ⟨f0, ?_, fun x => by omega⟩
    exact ⟨v0, [], f0, fun _ => 0, rfl, h0, ⟨rfl, fun _ => rfl⟩, fun _ => rfl⟩
  | d :: es, _, g, k + 1, ⟨v, r, f1, f2, e, h1, h2, h3⟩ => by
    subst e
    obtain ⟨g', k1, k2⟩ := RepOs.insI h0 k h2
    exact ⟨fun x => f1 x + g' x, ⟨v, _, f1, g', rfl, h1, k1, fun _ => rfl⟩, fun x => by show f1 x + g' x ≤ g x + f0 x; rw [h3]; have := k2 x; omega⟩
def popD (es : List D) (k : Int) : Option (List D) := if -(2 ^ 63) ≤ k ∧ k < 2 ^ 63 then (ixN es.length k).map fun j => es.eraseIdx j else none
def sPopAt (i : Nat) (mi : MZ) : MS := fun τ => match τ.getD i none with
  | some (.lst true es) => (match mi τ with
    | some (.int k) => (match popD es k with
      | some es' => .nx (τ.set i (some (.lst true es')))
      | none => .bad)
    | _ => .bad)
  | _ => .bad
theorem pa_one {e : Expr} {te : TE} (he : PE X e te) (hs : starEach [e] X.env = (false, eval e X.env) :: starEach [] X.env := by rfl) : PA X [e] (tCons te tNil) := pa_cons he pa_nil hs
theorem s_popAt {i : Nat} {o e : Expr} {apos cpos pos : Pos} {mi : MZ} (ho : PE X o (tVar i)) (hi : PE X e (rdZ X.K B mi))
    (hs : starEach [e] X.env = (false, eval e X.env) :: starEach [] X.env := by rfl)
    (hbase : attributeBase o "pop" X.env (eval o X.env) = eval o X.env := by rfl)
    (hfew : ((backTo cpos (starEach [e] X.env)).all (fun x => !x.1) && (backToKw cpos (keywordEach [] X.env)).all (fun x => x.1.isSome)
      && decide ([e].length + ([] : List Keyword).length + (if ([] : List Keyword).isEmpty then 0 else 1) < 30)) = true := by rfl)
    (hline : (apos.endLine == cpos.line) = true := by rfl) (hplain : (backTo cpos (starEach [] X.env)).any (·.1) = false := by rfl)
    (hsw : swapsWith (.Call (.Attribute o "pop" apos) [e] [] cpos) none pos.line X.env = pure false := by rfl) : PS X (.Expr (.Call (.Attribute o "pop" apos) [e] [] cpos) pos) (rdS X.K B W (sPopAt i mi)) :=
  PS.imp (ps_expr (pe_bm PySem.F.plainAttrs_list PySem.F.slot_list_pop PySem.F.type_list_pop mt_popAt ho (pa_cons hi pa_nil hs) hbase hfew hline hs hplain) hsw) fun D σ H ⟨F, τ, vs, ds, s, p⟩ => by
    unfold sPopAt at p
    split at p
    · rename_i es e0
      have e0' := getD_some e0
      split at p
      · rename_i k e2
        cases e3 : popD es k with
        | none => rw [e3] at p; exact p.elim
        | some es' =>
          rw [e3] at p
          replace p : postS X.K B W vs ds D (SR.nx (τ.set i (some (.lst true es')))) := p
          unfold popD at e3
          by_cases hk : -(2 ^ 63) ≤ k ∧ k < 2 ^ 63
          · rw [if_pos hk] at e3
            cases e4 : ixN es.length k with
            | none => rw [e4] at e3; cases e3
            | some j =>
              rw [e4] at e3
              replace e3 : es.eraseIdx j = es' := Option.some.inj e3
              obtain ⟨v, k1, s2⟩ := s.take e0'
              obtain ⟨f, a, us, g, rfl, hx, hg, _⟩ := s2.top
              obtain ⟨i1, i2, _⟩ := ixN_seq e4
              refine ⟨.ref a, k1, .inl ⟨rfl, us, sqOf hx⟩, F, τ, vs, ds, s, .int k, e2, fun w fw hw => ?_⟩
              obtain rfl : w = V.int k := hw.1
              refine ⟨a, us, k, j, us[j]'(by rw [hg.length]; exact i2), rfl, rfl, hx, hk.1, hk.2, by rw [hg.length]; exact i1, by simp, ?_⟩
              have s3 := StT.change (us := []) (ds := []) (ys := us.eraseIdx j) (es2 := es.eraseIdx j) s2 rfl hx fun g1 g2 r1 r2 => by
                obtain ⟨g, q1, q2⟩ := RepOs.eraseI j r1
                exact ⟨g, q1, fun b => by have := q2 b; omega⟩
              have s4 := s3.putBack (i := i) (by rw [List.length_set]; exact (List.getElem?_eq_some_iff.mp e0').1) k1
              rw [List.set_set, e3] at s4
              exact p σ F _ s4
          · rw [if_neg hk] at e3; cases e3
      · exact p.elim
    · exact p.elim
def sIns (i : Nat) (mi : MZ) (m : ME) : MS := fun τ => match τ.getD i none, mi τ with
  | some (.lst true _), some (.int k) => (m τ).s fun d τ1 => (match τ1.getD i none with
    | some (.lst true es) => if es.length < 1000000 ∧ 0 ≤ k ∧ k < 2 ^ 63 then .nx (τ1.set i (some (.lst true (es.take k.toNat ++ [d] ++ es.drop k.toNat)))) else .bad
    | _ => .bad)
  | _, _ => .bad
theorem s_ins {i : Nat} {o e0 e : Expr} {apos cpos pos : Pos} {mi : MZ} {m : ME} (ho : PE X o (tVar i)) (hi : PE X e0 (rdZ X.K B mi)) (he : PE X e (rdE X.K B W m))
    (hbase : attributeBase o "insert" X.env (eval o X.env) = eval o X.env := by rfl)
    (hfew : ((backTo cpos (starEach [e0, e] X.env)).all (fun x => !x.1) && (backToKw cpos (keywordEach [] X.env)).all (fun x => x.1.isSome)
      && decide ([e0, e].length + ([] : List Keyword).length + (if ([] : List Keyword).isEmpty then 0 else 1) < 30)) = true := by rfl)
    (hline : (apos.endLine == cpos.line) = true := by rfl) (hs0 : starEach [e0, e] X.env = (false, eval e0 X.env) :: starEach [e] X.env := by rfl) (hs : starEach [e] X.env = (false, eval e X.env) :: starEach [] X.env := by rfl)
    (hplain : (backTo cpos (starEach [e] X.env)).any (·.1) = false := by rfl)
    (hsw : swapsWith (.Call (.Attribute o "insert" apos) [e0, e] [] cpos) none pos.line X.env = pure false := by rfl) : PS X (.Expr (.Call (.Attribute o "insert" apos) [e0, e] [] cpos) pos) (rdS X.K B W (sIns i mi m)) :=
  PS.imp (ps_expr (pe_bm PySem.F.plainAttrs_list PySem.F.slot_list_insert PySem.F.type_list_insert mt_insert ho (pa_cons hi (pa_cons he pa_nil hs) hs0) hbase hfew hline hs0 hplain) hsw) fun D σ H ⟨F, τ, vs, ds, s, p⟩ => by
    unfold sIns at p
    split at p
    · rename_i es0 k e0 e2
      obtain ⟨v, f, h1, a, us, g, rfl, h2, _⟩ := s.get (getD_some e0)
      refine ⟨.ref a, h1, .inl ⟨rfl, us, sqOf h2⟩, F, τ, vs, ds, s, .int k, e2, fun w fw hw => ?_⟩
      obtain rfl : w = V.int k := hw.1
      refine ⟨F, τ, vs, ds, s, post_imp (post_s (σ := σ) p) (fun d τ1 q y F1 H1 s1 => ?_) fun _ _ q => q⟩
      split at q
      · rename_i es e1
        have e1' := getD_some e1
        obtain ⟨v, k1, s2⟩ := s1.take e1'
        rw [h1] at k1
        cases k1
        by_cases hl : es.length < 1000000 ∧ 0 ≤ k ∧ k < 2 ^ 63
        · rw [if_pos hl] at q
          obtain ⟨f, a', us', g, ea, hx, hg, _⟩ := s2.top
          cases ea
          refine ⟨a, us', k, y, rfl, rfl, hx, by rw [hg.length, sizeLine_eq]; omega, hl.2.1, hl.2.2, ?_⟩
          have s3 := s2.change (us := [y]) (ds := [d]) (ys := us'.take k.toNat ++ [y] ++ us'.drop k.toNat) (es2 := es.take k.toNat ++ [d] ++ es.drop k.toNat) rfl hx fun g1 g2 r1 r2 => by
            obtain ⟨_, r, f1, f2, ey, q1, q2, q3⟩ := r2
            cases ey
            obtain ⟨g, y1, y2⟩ := RepOs.insI q1 k.toNat r1
            exact ⟨g, y1, fun b => by have := y2 b; have := q3 b; have := q2.2 b; omega⟩
          have s4 := s3.putBack (i := i) (by rw [List.length_set]; exact (List.getElem?_eq_some_iff.mp e1').1) h1
          rw [List.set_set] at s4
          exact q σ F1 _ s4
        · rw [if_neg hl] at q; exact q.elim
      · exact q.elim
    · exact p.elim
end
end Bn

/-! Plain facts of the functions of trees. -/
namespace Bn
open PySem L2
theorem vAdd (i j : Int) : gAdd (.int i) (.int j) = some (.int (i + j)) := rfl
theorem vSub (i j : Int) : gSub (.int i) (.int j) = some (.int (i - j)) := rfl
theorem vMul {i j : Int} (h : CMulW i j) : gMul (.int i) (.int j) = some (.int (i * j)) := if_pos h
theorem vDiv {i j : Int} (h0 : 0 < j) (h : j.natAbs.log2 < 9000) : gDiv (.int i) (.int j) = some (.int (i / j)) := if_pos ⟨h0, h⟩
theorem vMod {i j : Int} (h : 0 < j) : gMod (.int i) (.int j) = some (.int (i % j)) := if_pos h
theorem vPow {i j : Int} (h : CPow i j) : gPow (.int i) (.int j) = some (.int (i ^ j.toNat)) := if_pos h
theorem vLt (i j : Int) : gLt (.int i) (.int j) = some (.bl (decide (i < j))) := rfl
theorem vLe (i j : Int) : gLe (.int i) (.int j) = some (.bl (decide (i ≤ j))) := rfl
theorem vGt (i j : Int) : gGt (.int i) (.int j) = some (.bl (decide (j < i))) := rfl
theorem vGe (i j : Int) : gGe (.int i) (.int j) = some (.bl (decide (j ≤ i))) := rfl
theorem vNeg (i : Int) : gNeg (.int i) = some (.int (-i)) := rfl
theorem vEq (i j : Int) : gEq (.int i) (.int j) = some (.bl (i == j)) := rfl
theorem vNe (i j : Int) : gNe (.int i) (.int j) = some (.bl (!(i == j))) := rfl
theorem vEq2 (a b c d : Int) : gEq (.tup [.int a, .int b]) (.tup [.int c, .int d]) = some (.bl ((a == c) && ((b == d) && true))) := rfl
theorem vNe2 (a b c d : Int) : gNe (.tup [.int a, .int b]) (.tup [.int c, .int d]) = some (.bl (!((a == c) && ((b == d) && true)))) := rfl
theorem vIx0 (xs : List D) (d : D) : gIx (.tup (d :: xs)) (.int 0) = some d := by
  show atI (d :: xs) 0 = some d
  unfold atI ixN
  rw [if_pos (by decide), if_pos (by simp)]
  rfl
theorem atI_of {α : Type} {xs : List α} {k : Nat} {i : Int} (e : i = (k : Int)) : atI xs i = xs[k]? := by
  subst e
  unfold atI ixN
  rw [if_pos (by omega)]
  by_cases h : (k : Int) < xs.length
  · rw [if_pos h]; simp
  · rw [if_neg h]
    rw [List.getElem?_eq_none (by omega)]; rfl
theorem vIxL (m : Bool) (xs : List D) (k : Nat) : gIx (.lst m xs) (.int k) = xs[k]? := atI_of rfl
theorem vIxC (xs : List D) (k : Nat) : gIx (.cst xs) (.int k) = xs[k]? := atI_of rfl
theorem vIxT (xs : List D) (k : Nat) : gIx (.tup xs) (.int k) = xs[k]? := atI_of rfl
theorem vLenL (m : Bool) (xs : List D) : gLen [.lst m xs] = some (.int xs.length) := rfl
theorem vLenC (xs : List D) : gLen [.cst xs] = some (.int xs.length) := rfl
theorem vLenT (xs : List D) : gLen [.tup xs] = some (.int xs.length) := rfl
/-- sizes: from bounds -/
theorem log2_le {n m : Nat} (h : n < 2 ^ m) : n.log2 ≤ m := by
  by_cases z : n = 0
  · subst z; simp
  · have := (Nat.log2_lt z).mpr h
    omega
theorem mulW {i j : Int} (a b : Nat) (h1 : i.natAbs < 2 ^ a) (h2 : j.natAbs < 2 ^ b) (h : a + b < 1000000) : CMulW i j := by
  have := log2_le h1
  have := log2_le h2
  unfold CMulW
  omega
theorem divW {i j : Int} (b : Nat) (h0 : 0 < j) (h2 : j.natAbs < 2 ^ b) (h : b < 9000) : CDivW i j := by
  have := log2_le h2
  exact ⟨h0, by omega⟩
theorem vIx1 (xs : List D) (d e : D) : gIx (.tup (d :: e :: xs)) (.int 1) = some e := vIxT (d :: e :: xs) 1
section
variable {α β : Type} {τ τ' : Env} {d : D} {ds : List D} {c : Str} {x : Bool} {i : Nat}
def seqR (r : SR) (b : MS) : SR := match r with
  | .nx τ' => b τ' | .rt d τ' => .rt d τ' | .bk τ' => .bk τ' | .ct τ' => .ct τ' | .ex c τ' => .ex c τ' | .bad => .bad
theorem x_seq {a b : MS} : sSeq a b τ = seqR (a τ) b := rfl
theorem x_seq1 {b : MS} : seqR (.nx τ) b = b τ := rfl
theorem x_seq2 {b : MS} : seqR (.rt d τ) b = .rt d τ := rfl
theorem x_seq3 {b : MS} : seqR (.bk τ) b = .bk τ := rfl
theorem x_seq4 {b : MS} : seqR (.ct τ) b = .ct τ := rfl
theorem x_seq5 {b : MS} : seqR (.ex c τ) b = .ex c τ := rfl
theorem x_seq6 {b : MS} : seqR .bad b = .bad := rfl
theorem x_nil : sNil τ = .nx τ := rfl
def ifS (r : R Bool) (a b : MS) : SR := r.s fun x τ1 => if x = true then a τ1 else b τ1
theorem x_if {t : MT} {a b : MS} : sIf t a b τ = ifS (t τ) a b := rfl
theorem x_if1 {a b : MS} : ifS (.ok x τ) a b = if x = true then a τ else b τ := rfl
theorem x_if2 {a b : MS} : ifS (.ex c τ) a b = .ex c τ := rfl
theorem x_if3 {a b : MS} : ifS .bad a b = .bad := rfl
def retS (r : R D) : SR := r.s fun d τ1 => .rt d τ1
theorem x_ret {m : ME} : sRet m τ = retS (m τ) := rfl
theorem x_ret1 : retS (.ok d τ) = .rt d τ := rfl
theorem x_ret2 : retS (.ex c τ) = .ex c τ := rfl
theorem x_ret3 : retS .bad = .bad := rfl
theorem x_retN : sRetN τ = .rt .non τ := rfl
def asgG (o : Option Env) : SR := match o with
  | some τ2 => .nx τ2 | none => .bad
def asgS (r : R D) (g : D → Env → Option Env) : SR := r.s fun d τ1 => asgG (g d τ1)
theorem x_asg {m : ME} {g : D → Env → Option Env} : sAsg m g τ = asgS (m τ) g := rfl
theorem x_asg1 {g : D → Env → Option Env} : asgS (.ok d τ) g = asgG (g d τ) := rfl
theorem x_asg2 {g : D → Env → Option Env} : asgS (.ex c τ) g = .ex c τ := rfl
theorem x_asg3 {g : D → Env → Option Env} : asgS .bad g = .bad := rfl
theorem x_asg4 : asgG (some τ) = .nx τ := rfl
theorem x_asg5 : asgG none = .bad := rfl
theorem x_gN : gN i d τ = some (τ.set i (some d)) := rfl
def dropS (r : R D) : SR := r.s fun _ τ1 => .nx τ1
theorem x_drop {m : ME} : sDrop m τ = dropS (m τ) := rfl
theorem x_drop1 : dropS (.ok d τ) = .nx τ := rfl
theorem x_drop2 : dropS (.ex c τ) = .ex c τ := rfl
theorem x_bk : sBk τ = .bk τ := rfl
theorem x_ct : sCt τ = .ct τ := rfl
theorem x_raise : sRaise c τ = .ex c τ := rfl
def tZ' (o : Option D) (τ : Env) : R Bool := match o with
  | some (.bl b) => .ok b τ | _ => .bad
theorem x_tZ {m : MZ} : tZ m τ = tZ' (m τ) τ := rfl
theorem x_tZ1 : tZ' (some (.bl x)) τ = .ok x τ := rfl
theorem x_tZ2 : tZ' none τ = .bad := rfl
def tE' (r : R D) : R Bool := r.bind fun d τ1 => match d with
  | .bl b => .ok b τ1 | _ => .bad
theorem x_tE {m : ME} : tE m τ = tE' (m τ) := rfl
theorem x_tE1 : tE' (.ok (.bl x) τ) = .ok x τ := rfl
theorem x_tE2 : tE' (.ex c τ) = .ex c τ := rfl
theorem x_tE3 : tE' .bad = .bad := rfl
def andT (r : R Bool) (b : MT) : R Bool := r.bind fun x τ1 => if x = true then b τ1 else .ok false τ1
def orT (r : R Bool) (b : MT) : R Bool := r.bind fun x τ1 => if x = true then .ok true τ1 else b τ1
def notT (r : R Bool) : R Bool := r.bind fun x τ1 => .ok (!x) τ1
theorem x_tAnd {a b : MT} : tAnd a b τ = andT (a τ) b := rfl
theorem x_tAnd1 {b : MT} : andT (.ok x τ) b = if x = true then b τ else .ok false τ := rfl
theorem x_tAnd2 {b : MT} : andT (.ex c τ) b = .ex c τ := rfl
theorem x_tAnd3 {b : MT} : andT .bad b = .bad := rfl
theorem x_tOr {a b : MT} : tOr a b τ = orT (a τ) b := rfl
theorem x_tOr1 {b : MT} : orT (.ok x τ) b = if x = true then .ok true τ else b τ := rfl
theorem x_tOr2 {b : MT} : orT (.ex c τ) b = .ex c τ := rfl
theorem x_tOr3 {b : MT} : orT .bad b = .bad := rfl
theorem x_tNot {a : MT} : tNot a τ = notT (a τ) := rfl
theorem x_tNot1 : notT (.ok x τ) = .ok (!x) τ := rfl
theorem x_tNot2 : notT (.ex c τ) = .ex c τ := rfl
theorem x_tNot3 : notT .bad = .bad := rfl
theorem x_tTrue : tTrue τ = .ok true τ := rfl
def z2' (g : D → D → Option D) (a b : Option D) : Option D := a.bind fun a => b.bind fun b => g a b
theorem x_z2 {g : D → D → Option D} {m n : MZ} : z2 g m n τ = z2' g (m τ) (n τ) := rfl
theorem x_z21 {g : D → D → Option D} {a b : D} : z2' g (some a) (some b) = g a b := rfl
def z1' (g : D → Option D) (a : Option D) : Option D := a.bind g
theorem x_z1 {g : D → Option D} {m : MZ} : z1 g m τ = z1' g (m τ) := rfl
theorem x_z11 {g : D → Option D} {a : D} : z1' g (some a) = g a := rfl
def zCb (g : List D → Option D) (a : Option (List D)) : Option D := a.bind g
theorem x_zC {g : List D → Option D} {m : Env → Option (List D)} : zC' g m τ = zCb g (m τ) := rfl
theorem x_zC1 {g : List D → Option D} : zCb g (some ds) = g ds := rfl
def zaC (a : Option D) (b : Option (List D)) : Option (List D) := a.bind fun a => b.bind fun b => some (a :: b)
theorem x_za {m : MZ} {n : Env → Option (List D)} : zaCons m n τ = zaC (m τ) (n τ) := rfl
theorem x_za1 : zaC (some d) (some ds) = some (d :: ds) := rfl
theorem x_za0 : zaNil τ = some [] := rfl
theorem x_zV : zVar i τ = τ.getD i none := rfl
theorem x_zK : zC d τ = some d := rfl
def zCh (g g' : D → D → Option D) (a b : Option D) (c : MZ) (τ : Env) : Option D := a.bind fun x => b.bind fun y => (g x y).bind fun z => match z with
  | .bl true => (c τ).bind fun w => g' y w
  | .bl false => some (.bl false)
  | _ => none
def zCh2 (z : Option D) (g' : D → D → Option D) (y : D) (w : Option D) : Option D := z.bind fun z => match z with
  | .bl true => w.bind fun w => g' y w
  | .bl false => some (.bl false)
  | _ => none
theorem x_ch {g g' : D → D → Option D} {a b e : MZ} : zChain g g' a b e τ = zCh g g' (a τ) (b τ) e τ := rfl
theorem x_ch1 {g g' : D → D → Option D} {a b : D} {e : MZ} : zCh g g' (some a) (some b) e τ = zCh2 (g a b) g' b (e τ) := rfl
theorem x_ch2 {g' : D → D → Option D} {a b : D} : zCh2 (some (.bl x)) g' a (some b) = if x = true then g' a b else some (.bl false) := by cases x <;> rfl
def eZ' (o : Option D) (τ : Env) : R D := match o with
  | some d => if isFz d = true then .ok d τ else .bad
  | none => .bad
theorem x_eZ {m : MZ} : eZ m τ = eZ' (m τ) τ := rfl
theorem x_eZ1 : eZ' (some d) τ = if isFz d = true then .ok d τ else .bad := rfl
theorem x_eZ2 : eZ' none τ = .bad := rfl
def eV' (o : Option D) (i : Nat) (τ : Env) : R D := match o with
  | some d => if isFz d = true then .ok d τ else .ok (freeze d) (τ.set i (some (freeze d)))
  | none => .bad
theorem x_eV : eVar i τ = eV' (τ.getD i none) i τ := rfl
theorem x_eV1 : eV' (some d) i τ = if isFz d = true then .ok d τ else .ok (freeze d) (τ.set i (some (freeze d))) := rfl
def eM' (o : Option D) (i : Nat) (τ : Env) : R D := match o with
  | some d => .ok d (τ.set i none)
  | none => .bad
theorem x_eM : eMv i τ = eM' (τ.getD i none) i τ := rfl
theorem x_eM1 : eM' (some d) i τ = .ok d (τ.set i none) := rfl
theorem x_b1 {a : α} {k : α → Env → R β} : R.bind (.ok a τ) k = k a τ := rfl
theorem x_b2 {k : α → Env → R β} : R.bind (.ex c τ) k = .ex c τ := rfl
theorem x_b3 {k : α → Env → R β} : R.bind .bad k = .bad := rfl
theorem x_s1 {a : α} {k : α → Env → SR} : R.s (.ok a τ) k = k a τ := rfl
theorem x_s2 {k : α → Env → SR} : R.s (.ex c τ) k = .ex c τ := rfl
theorem x_s3 {k : α → Env → SR} : R.s .bad k = .bad := rfl
theorem x_oO : ofO (some d) τ = if isFz d = true then .ok d τ else .bad := rfl
theorem x_oO2 : ofO none τ = .bad := rfl
theorem x_e2 {g : D → D → Option D} {m n : ME} : e2 g m n τ = (m τ).bind fun a τ1 => (n τ1).bind fun b τ2 => ofO (g a b) τ2 := rfl
theorem x_e1 {g : D → Option D} {m : ME} : e1 g m τ = (m τ).bind fun a τ1 => ofO (g a) τ1 := rfl
theorem x_eC {g : List D → Option D} {m : MA} : eC g m τ = (m τ).bind fun a τ1 => ofO (g a) τ1 := rfl
theorem x_aN : aNil τ = .ok [] τ := rfl
theorem x_aC {m : ME} {n : MA} : aCons m n τ = (m τ).bind fun d τ1 => (n τ1).bind fun ds τ2 => .ok (d :: ds) τ2 := rfl
theorem x_tup {m : MA} : eTup m τ = (m τ).bind fun ds τ1 => if ds.length ≤ 1000000 then .ok (.tup (freezeL ds)) τ1 else .bad := rfl
theorem x_lst {m : MA} : eLst m τ = (m τ).bind fun ds τ1 => if ds.length ≤ 1000000 then .ok (.lst true ds) τ1 else .bad := rfl
theorem x_call {g : List D → CR} {m : MA} : eCall g m τ = (m τ).bind fun ds τ1 => ofC (g (freezeL ds)) τ1 := rfl
theorem x_oC1 : ofC (.ok d) τ = .ok d τ := rfl
theorem x_oC2 : ofC (.ex c) τ = .ex c τ := rfl
def c0 (r : CR) (τ : Env) : R D := match r with
  | .ok d => .ok d τ
  | _ => .bad
theorem x_call0 {g : List D → CR} : eCall0 g τ = c0 (g []) τ := rfl
theorem x_call01 : c0 (.ok d) τ = .ok d τ := rfl
def andE (r : R D) (b : ME) : R D := r.bind fun x τ1 => match x with
  | .bl true => b τ1 | .bl false => .ok (.bl false) τ1 | _ => .bad
def orE (r : R D) (b : ME) : R D := r.bind fun x τ1 => match x with
  | .bl false => b τ1 | .bl true => .ok (.bl true) τ1 | _ => .bad
def notE (r : R D) : R D := r.bind fun x τ1 => match x with
  | .bl b => .ok (.bl (!b)) τ1 | _ => .bad
def ifE (r : R Bool) (a b : ME) : R D := r.bind fun x τ1 => if x = true then a τ1 else b τ1
theorem x_eAnd {a b : ME} : eAnd a b τ = andE (a τ) b := rfl
theorem x_eAnd1 {b : ME} : andE (.ok (.bl x) τ) b = if x = true then b τ else .ok (.bl false) τ := by cases x <;> rfl
theorem x_eOr {a b : ME} : eOr a b τ = orE (a τ) b := rfl
theorem x_eOr1 {b : ME} : orE (.ok (.bl x) τ) b = if x = true then .ok (.bl true) τ else b τ := by cases x <;> rfl
theorem x_eNot {a : ME} : eNot a τ = notE (a τ) := rfl
theorem x_eNot1 : notE (.ok (.bl x) τ) = .ok (.bl (!x)) τ := rfl
theorem x_eIf {t : MT} {a b : ME} : eIf t a b τ = ifE (t τ) a b := rfl
theorem x_eIf1 {a b : ME} : ifE (.ok x τ) a b = if x = true then a τ else b τ := rfl
theorem x_fz_int (i : Int) : isFz (.int i) = true := rfl
theorem x_fr_int (i : Int) : freeze (.int i) = .int i := rfl
theorem x_fz_bl (i : Bool) : isFz (.bl i) = true := rfl
theorem x_fr_bl (i : Bool) : freeze (.bl i) = .bl i := rfl
theorem x_fz_str (i : Str) : isFz (.str i) = true := rfl
theorem x_fr_str (i : Str) : freeze (.str i) = .str i := rfl
theorem x_fz_ty (i : String) : isFz (.ty i) = true := rfl
theorem x_fr_ty (i : String) : freeze (.ty i) = .ty i := rfl
theorem x_fz_tup (i : List D) : isFz (.tup i) = true := rfl
theorem x_fr_tup (i : List D) : freeze (.tup i) = .tup i := rfl
theorem x_fz_cst (i : List D) : isFz (.cst i) = true := rfl
theorem x_fr_cst (i : List D) : freeze (.cst i) = .cst i := rfl
theorem x_fz_lst_false (i : List D) : isFz (.lst false i) = true := rfl
theorem x_fr_lst_false (i : List D) : freeze (.lst false i) = .lst false i := rfl
theorem x_fz_non : isFz .non = true := rfl
theorem x_fr_non : freeze .non = .non := rfl
theorem x_fz_lt : isFz (.lst true ds) = false := rfl
theorem x_fr_lt : freeze (.lst true ds) = .lst false (freezeL ds) := rfl
theorem x_fL0 : freezeL [] = [] := rfl
theorem x_fL1 : freezeL (d :: ds) = freeze d :: freezeL ds := rfl
def callR (r : SR) : CR := match r with
  | .nx _ => .ok .non | .rt d _ => .ok d | .ex c _ => .ex c | _ => .bad
theorem x_cF {n N : Nat} {b : MS} : callF n N b ds = if ds.length = n then callR (b (ds.map some ++ List.replicate (N - n) none)) else .bad := rfl
theorem x_cR1 : callR (.nx τ) = .ok .non := rfl
theorem x_cR2 : callR (.rt d τ) = .ok d := rfl
theorem x_cR3 : callR (.ex c τ) = .ex c := rfl
def iL' (d : D) (τ : Env) : R (List D) := match d with
  | .lst _ es => .ok es τ | _ => .bad
def iT' (d : D) (τ : Env) : R (List D) := match d with
  | .tup es => .ok es τ | _ => .bad
def iS' (d : D) (τ : Env) : R (List D) := match d with
  | .str z => .ok (strD z) τ | _ => .bad
def iR1' (d : List D) (τ : Env) : R (List D) := match d with
  | [.int j] => if -(2 ^ 62) ≤ j ∧ j < 2 ^ 62 then .ok (rangeD 0 j.toNat) τ else .bad
  | _ => .bad
def iR2' (d : List D) (τ : Env) : R (List D) := match d with
  | [.int i, .int j] => if -(2 ^ 62) ≤ i ∧ i < 2 ^ 62 ∧ -(2 ^ 62) ≤ j ∧ j < 2 ^ 62 then .ok (rangeD i (j - i).toNat) τ else .bad
  | _ => .bad
def iE' (d : List D) (τ : Env) : R (List D) := match d with
  | [.lst _ es] => .ok (enumD 0 es) τ | _ => .bad
def iV' (d : List D) (τ : Env) : R (List D) := match d with
  | [.lst _ es] => .ok es.reverse τ | _ => .bad
def iZ' (d : List D) (τ : Env) : R (List D) := match d with
  | [.lst _ es, .lst _ fs] => .ok (zipD es fs) τ | _ => .bad
theorem x_iL {m : ME} : iL m τ = (m τ).bind fun d τ1 => iL' (freeze d) τ1 := rfl
theorem x_iL1 {b : Bool} : iL' (.lst b ds) τ = .ok ds τ := rfl
theorem x_iT {m : ME} : iT m τ = (m τ).bind fun d τ1 => iT' d τ1 := rfl
theorem x_iT1 : iT' (.tup ds) τ = .ok ds τ := rfl
theorem x_iS {m : ME} : iS m τ = (m τ).bind fun d τ1 => iS' d τ1 := rfl
theorem x_iS1 {z : Str} : iS' (.str z) τ = .ok (strD z) τ := rfl
theorem x_iR1 {m : MA} : iR1 m τ = (m τ).bind fun d τ1 => iR1' d τ1 := rfl
theorem x_iR11 {j : Int} (h1 : -4611686018427387904 ≤ j) (h2 : j < 4611686018427387904) : iR1' [.int j] τ = .ok (rangeD 0 j.toNat) τ := if_pos ⟨h1, h2⟩
theorem x_iR2 {m : MA} : iR2 m τ = (m τ).bind fun d τ1 => iR2' d τ1 := rfl
theorem x_iR21 {i j : Int} (h1 : -4611686018427387904 ≤ i) (h2 : i < 4611686018427387904) (h3 : -4611686018427387904 ≤ j) (h4 : j < 4611686018427387904) : iR2' [.int i, .int j] τ = .ok (rangeD i (j - i).toNat) τ := if_pos ⟨h1, h2, h3, h4⟩
theorem x_iE {m : MA} : iE m τ = (m τ).bind fun d τ1 => iE' (freezeL d) τ1 := rfl
theorem x_iE1 {b : Bool} : iE' [.lst b ds] τ = .ok (enumD 0 ds) τ := rfl
theorem x_iV {m : MA} : iV m τ = (m τ).bind fun d τ1 => iV' (freezeL d) τ1 := rfl
theorem x_iV1 {b : Bool} : iV' [.lst b ds] τ = .ok ds.reverse τ := rfl
theorem x_iZ {m : MA} : iZ m τ = (m τ).bind fun d τ1 => iZ' (freezeL d) τ1 := rfl
theorem x_iZ1 {b b' : Bool} {es : List D} : iZ' [.lst b ds, .lst b' es] τ = .ok (zipD ds es) τ := rfl
def forB (r : SR) (k : Env → SR) : SR := match r with
  | .nx τ2 => k τ2 | .ct τ2 => k τ2 | .bk τ2 => .nx τ2 | .rt d τ2 => .rt d τ2 | .ex c τ2 => .ex c τ2 | .bad => .bad
def forG (o : Option Env) (b : MS) (k : Env → SR) : SR := match o with
  | none => .bad | some τ1 => forB (b τ1) k
theorem x_for {m : MA} {g : D → Env → Option Env} {b : MS} : sFor m g b τ = (m τ).s fun items τ1 => forL g b items τ1 := rfl
theorem x_fo0 {g : D → Env → Option Env} {b : MS} : forL g b [] τ = .nx τ := rfl
theorem x_fo1 {g : D → Env → Option Env} {b : MS} : forL g b (d :: ds) τ = forG (g d τ) b (forL g b ds) := rfl
theorem x_fo2 {b : MS} {k : Env → SR} : forG (some τ) b k = forB (b τ) k := rfl
theorem x_fo3 {k : Env → SR} : forB (.nx τ) k = k τ := rfl
theorem x_fo4 {k : Env → SR} : forB (.ct τ) k = k τ := rfl
theorem x_fo5 {k : Env → SR} : forB (.bk τ) k = .nx τ := rfl
theorem x_fo6 {k : Env → SR} : forB (.rt d τ) k = .rt d τ := rfl
theorem x_fo7 {k : Env → SR} : forB (.ex c τ) k = .ex c τ := rfl
def gT' (n : Nat) (g : List D → Env → Option Env) (es : List D) (τ : Env) : Option Env := if es.length = n then g es τ else none
theorem x_gT {n : Nat} {g : List D → Env → Option Env} : gT n g (.tup ds) τ = if ds.length = n then g ds τ else none := rfl
theorem x_gC {g : D → Env → Option Env} {h : List D → Env → Option Env} : gCons' g h (d :: ds) τ = (g d τ).bind (h ds) := rfl
theorem x_gC0 : gNil' [] τ = some τ := rfl
def tryB (sub : Str → Option Bool) (r : SR) (su : MS) : SR := match r with
  | .ex c τ' => (match sub c with | some true => noEx (su τ') | some false => .ex c τ' | none => .bad)
  | .nx τ' => .nx τ' | .rt d τ' => .rt d τ' | .bk τ' => .bk τ' | .ct τ' => .ct τ' | .bad => .bad
def tryC (o : Option Bool) (c : Str) (τ' : Env) (su : MS) : SR := match o with
  | some true => noEx (su τ') | some false => .ex c τ' | none => .bad
theorem x_try {sub : Str → Option Bool} {b su : MS} : sTry sub b su τ = tryB sub (b τ) su := rfl
theorem x_try1 {sub : Str → Option Bool} {su : MS} : tryB sub (.nx τ) su = .nx τ := rfl
theorem x_try2 {sub : Str → Option Bool} {su : MS} : tryB sub (.rt d τ) su = .rt d τ := rfl
theorem x_try3 {sub : Str → Option Bool} {su : MS} : tryB sub (.ex c τ) su = tryC (sub c) c τ su := rfl
theorem x_try4 {su : MS} : tryC (some true) c τ su = noEx (su τ) := rfl
theorem x_try5 {su : MS} : tryC (some false) c τ su = .ex c τ := rfl
theorem x_nx1 : noEx (.nx τ) = .nx τ := rfl
theorem x_nx2 : noEx (.rt d τ) = .rt d τ := rfl
theorem x_try6 {sub : Str → Option Bool} {su : MS} : tryB sub (.bk τ) su = .bk τ := rfl
theorem x_try7 {sub : Str → Option Bool} {su : MS} : tryB sub (.ct τ) su = .ct τ := rfl
theorem x_nx3 : noEx (.bk τ) = .bk τ := rfl
theorem x_nx4 : noEx (.ct τ) = .ct τ := rfl
def appS (o : Option D) (i : Nat) (d : D) (τ : Env) : SR := match o with
  | some (.lst true es) => if es.length < 1000000 then .nx (τ.set i (some (.lst true (es ++ [d])))) else .bad
  | _ => .bad
def appT (o : Option D) (i : Nat) (r : R D) : SR := match o with
  | some (.lst true _) => r.s fun d τ1 => appS (τ1.getD i none) i d τ1
  | _ => .bad
theorem x_app {m : ME} : sApp i m τ = appT (τ.getD i none) i (m τ) := rfl
theorem x_app1 {r : R D} : appT (some (.lst true ds)) i r = r.s fun d τ1 => appS (τ1.getD i none) i d τ1 := rfl
theorem x_app2 : appS (some (.lst true ds)) i d τ = if ds.length < 1000000 then .nx (τ.set i (some (.lst true (ds ++ [d])))) else .bad := rfl
def lcE (r : R (List D)) : R D := match r with
  | .ok acc τ2 => .ok (.lst true acc) τ2
  | _ => .bad
def lcG (o : Option Env) (own : List Nat) (g : D → Env → Option Env) (t : MT) (m : ME) (r acc : List D) : R (List D) := match o with
  | none => .bad
  | some τ1 => (t τ1).bind fun b τ2 => if b = true then (m τ2).bind fun e τ3 => if acc.length < 1000000 then lcL own g t m r (acc ++ [e]) (wipeE τ3 own) else .bad else lcL own g t m r acc (wipeE τ2 own)
theorem x_lc {own : List Nat} {it : MA} {g : D → Env → Option Env} {t : MT} {m : ME} : eLc own it g t m τ = (it τ).bind fun items τ1 => lcE (lcL own g t m items [] (wipeE τ1 own)) := rfl
theorem x_lcE : lcE (.ok ds τ) = .ok (.lst true ds) τ := rfl
theorem x_lc0 {own : List Nat} {g : D → Env → Option Env} {t : MT} {m : ME} : lcL own g t m [] ds τ = .ok ds τ := rfl
theorem x_lc1 {own : List Nat} {g : D → Env → Option Env} {t : MT} {m : ME} {r : List D} : lcL own g t m (d :: r) ds τ = lcG (g d τ) own g t m r ds := rfl
theorem x_lcG {own : List Nat} {g : D → Env → Option Env} {t : MT} {m : ME} {r : List D} : lcG (some τ) own g t m r ds = (t τ).bind fun b τ2 => if b = true then (m τ2).bind fun e τ3 => if ds.length < 1000000 then lcL own g t m r (ds ++ [e]) (wipeE τ3 own) else .bad else lcL own g t m r ds (wipeE τ2 own) := rfl
theorem x_w0 : wipeE τ [] = τ := rfl
theorem x_w1 {own : List Nat} : wipeE τ (i :: own) = (wipeE τ own).set i none := rfl
theorem vMinL4 (m : Bool) (a b c d : Int) : gMinL [.lst m [.int a, .int b, .int c, .int d]] = some (.int (minI a [b, c, d])) := rfl
theorem vMaxL4 (m : Bool) (a b c d : Int) : gMaxL [.lst m [.int a, .int b, .int c, .int d]] = some (.int (maxI a [b, c, d])) := rfl
theorem vAll {m : Bool} {ds : List D} {bs : List Bool} (h : boolsOf ds = some bs) : gAll [.lst m ds] = some (.bl (bs.all id)) := by
  show (match boolsOf ds with | some ns => some (D.bl (ns.all id)) | _ => none) = _
  rw [h]
theorem vAny {m : Bool} {ds : List D} {bs : List Bool} (h : boolsOf ds = some bs) : gAny [.lst m ds] = some (.bl (bs.any id)) := by
  show (match boolsOf ds with | some ns => some (D.bl (ns.any id)) | _ => none) = _
  rw [h]
theorem vAll3 (m : Bool) (a b c : Bool) : gAll [.lst m [.bl a, .bl b, .bl c]] = some (.bl ([a, b, c].all id)) := rfl
theorem vAny3 (m : Bool) (a b c : Bool) : gAny [.lst m [.bl a, .bl b, .bl c]] = some (.bl ([a, b, c].any id)) := rfl
theorem vAll4 (m : Bool) (a b c d : Bool) : gAll [.lst m [.bl a, .bl b, .bl c, .bl d]] = some (.bl ([a, b, c, d].all id)) := rfl
theorem vAny4 (m : Bool) (a b c d : Bool) : gAny [.lst m [.bl a, .bl b, .bl c, .bl d]] = some (.bl ([a, b, c, d].any id)) := rfl
def whC (r : R Bool) (b : MS) (k : Env → SR) : SR := match r with
  | .ok true τ1 => forB (b τ1) k | .ok false τ1 => .nx τ1 | .ex e τ1 => .ex e τ1 | .bad => .bad
theorem x_wh {t : MT} {b : MS} {n : Nat} : whileM t b (n + 1) τ = whC (t τ) b (whileM t b n) := by
  show (match t τ with | .ok true τ1 => _ | .ok false τ1 => _ | .ex e τ1 => _ | .bad => _) = _
  unfold whC forB
  cases t τ with
  | ok x τ1 => cases x with
    | true => cases b τ1 <;> rfl
    | false => rfl
  | ex e τ1 => rfl
  | bad => rfl
theorem x_wh1 {b : MS} {k : Env → SR} : whC (.ok true τ) b k = forB (b τ) k := rfl
theorem x_wh2 {b : MS} {k : Env → SR} : whC (.ok false τ) b k = .nx τ := rfl
theorem x_wh0 {f : Env → Nat} {t : MT} {b : MS} : sWhile f t b τ = whileM t b (f τ) τ := rfl
theorem x_abs {i : Int} : gAbs [.int i] = some (.int (if i < 0 then -i else i)) := rfl
theorem vI_ii {i : Int} : gIsi [.int i, .ty "int"] = some (.bl true) := rfl
theorem vI_ib {i : Int} : gIsi [.int i, .ty "bool"] = some (.bl false) := rfl
theorem vI_it {i : Int} : gIsi [.int i, .ty "tuple"] = some (.bl false) := rfl
theorem vI_il {i : Int} : gIsi [.int i, .ty "list"] = some (.bl false) := rfl
theorem vI_is {i : Int} : gIsi [.int i, .ty "str"] = some (.bl false) := rfl
theorem vI_bb {i : Bool} : gIsi [.bl x, .ty "bool"] = some (.bl true) := rfl
theorem vI_bi {i : Bool} : gIsi [.bl x, .ty "int"] = some (.bl true) := rfl
theorem vI_tt {i : Bool} : gIsi [.tup ds, .ty "tuple"] = some (.bl true) := rfl
theorem vI_tl {i : Bool} : gIsi [.tup ds, .ty "list"] = some (.bl false) := rfl
theorem vI_ti {i : Bool} : gIsi [.tup ds, .ty "int"] = some (.bl false) := rfl
theorem vI_ll {i : Bool} : gIsi [.lst i ds, .ty "list"] = some (.bl true) := rfl
theorem vI_lt {i : Bool} : gIsi [.lst i ds, .ty "tuple"] = some (.bl false) := rfl
theorem vI_ss {i : Str} : gIsi [.str i, .ty "str"] = some (.bl true) := rfl
theorem vEqB {i j : Bool} : gEq (.bl i) (.bl j) = some (.bl (i == j)) := rfl
theorem vNeB {i j : Bool} : gNe (.bl i) (.bl j) = some (.bl (!(i == j))) := rfl
def asB (i : Nat) (sub : Str → Option Bool) (r : SR) (su : Str → MS) : SR := match r with
  | .ex c τ' => tryAs i (sub c) c τ' su
  | .nx τ' => .nx τ' | .rt d τ' => .rt d τ' | .bk τ' => .bk τ' | .ct τ' => .ct τ' | .bad => .bad
theorem x_ta {sub : Str → Option Bool} {b : MS} {su : Str → MS} : sTryAs i sub b su τ = asB i sub (b τ) su := rfl
theorem x_ta1 {sub : Str → Option Bool} {su : Str → MS} : asB i sub (.ex c τ) su = tryAs i (sub c) c τ su := rfl
theorem x_ta2 {sub : Str → Option Bool} {su : Str → MS} : asB i sub (.nx τ) su = .nx τ := rfl
theorem x_ta3 {su : Str → MS} : tryAs i (some true) c τ su = if i < τ.length then endAs i (su c (τ.set i none)) else .bad := rfl
theorem x_ta4 : endAs i (.nx τ) = .nx (τ.set i none) := rfl
theorem x_ta5 : endAs i (.rt d τ) = .rt d τ := rfl
theorem x_is : eIs (some x) τ = .ok (.bl x) τ := rfl
theorem nc_0 : ((0 : Nat) : Int) = 0 := rfl
theorem nc_1 : ((1 : Nat) : Int) = 1 := rfl
theorem nc_2 : ((2 : Nat) : Int) = 2 := rfl
theorem nc_3 : ((3 : Nat) : Int) = 3 := rfl
theorem nc_4 : ((4 : Nat) : Int) = 4 := rfl
theorem nc_5 : ((5 : Nat) : Int) = 5 := rfl
theorem nc_6 : ((6 : Nat) : Int) = 6 := rfl
theorem nc_7 : ((7 : Nat) : Int) = 7 := rfl
theorem nc_8 : ((8 : Nat) : Int) = 8 := rfl
theorem nc_9 : ((9 : Nat) : Int) = 9 := rfl
theorem nc_10 : ((10 : Nat) : Int) = 10 := rfl
theorem nc_11 : ((11 : Nat) : Int) = 11 := rfl
def mxI (i j : Int) : Int := if j > i then j else i
def mnI (i j : Int) : Int := if j < i then j else i
theorem mxI_le (i j : Int) : i ≤ mxI i j ∧ j ≤ mxI i j ∧ (mxI i j = i ∨ mxI i j = j) := by unfold mxI; split <;> omega
theorem mnI_le (i j : Int) : mnI i j ≤ i ∧ mnI i j ≤ j ∧ (mnI i j = i ∨ mnI i j = j) := by unfold mnI; split <;> omega
theorem vMax2 {i j : Int} : gMax2 [.int i, .int j] = some (.int (mxI i j)) := rfl
theorem vMin2 {i j : Int} : gMin2 [.int i, .int j] = some (.int (mnI i j)) := rfl
theorem vIsN0 : gIsN .non .non = some (.bl true) := rfl
theorem vIsN1 {i : List D} : gIsN (.tup i) .non = some (.bl false) := rfl
theorem vNotN0 : gNotN .non .non = some (.bl false) := rfl
theorem vNotN1 {i : List D} : gNotN (.tup i) .non = some (.bl true) := rfl
theorem vIsN2 {i : Int} : gIsN (.int i) .non = some (.bl false) := rfl
theorem vNotN2 {i : Int} : gNotN (.int i) .non = some (.bl true) := rfl
def loD (ds : List D) (τ : Env) : R D := match ds with
  | [.lst _ es] => .ok (.lst true es) τ
  | [.tup es] => .ok (.lst true es) τ
  | _ => .bad
theorem x_lo {m : MA} : eLstOf m τ = (m τ).bind fun ds τ1 => loD (freezeL ds) τ1 := rfl
theorem x_lo1 {b : Bool} : loD [.lst b ds] τ = .ok (.lst true ds) τ := rfl
theorem x_lo2 : loD [.tup ds] τ = .ok (.lst true ds) τ := rfl
theorem vAll2 (m : Bool) (a b : Bool) : gAll [.lst m [.bl a, .bl b]] = some (.bl ([a, b].all id)) := rfl
theorem vAny2 (m : Bool) (a b : Bool) : gAny [.lst m [.bl a, .bl b]] = some (.bl ([a, b].any id)) := rfl
def slE (o : Option D) (τ : Env) : R D := match o with
  | some x => .ok x τ | none => .bad
theorem x_sl {f : D → Option Int → Option Int → Option D} {m : ME} {p r : Env → R (Option Int)} : eSlice f m p r τ = (m τ).bind fun d τ1 => slR (freeze d) p r f τ1 := rfl
theorem x_sl1 {f : D → Option Int → Option Int → Option D} {p r : Env → R (Option Int)} : slR d p r f τ = (p τ).bind fun lo τ1 => (r τ1).bind fun hi τ2 => slE (f d lo hi) τ2 := rfl
theorem x_sl2 : slE (some d) τ = .ok d τ := rfl
theorem x_pn : pNone τ = .ok none τ := rfl
def psI (d : D) (τ : Env) : R (Option Int) := match d with
  | .int i => .ok (some i) τ | _ => .bad
theorem x_ps {m : ME} : pSome m τ = (m τ).bind fun d τ1 => psI d τ1 := rfl
theorem x_ps1 {i : Int} : psI (.int i) τ = .ok (some i) τ := rfl
theorem x_cutL {b : Bool} {l h : Option Int} : cutLd (.lst b ds) l h = some (.lst true (cutL ds l h)) := rfl
theorem x_cutC {l h : Option Int} : cutLd (.cst ds) l h = some (.lst true (cutL ds l h)) := rfl
theorem okP_str {i : Str} (h : PySem.PyData.strOk i = true) : okP (.str i) = true := by
  show (true && (PySem.PyData.canLay0 (.str i) && decide (PySem.PyData.depth (.str i) ≤ 64))) = true
  rw [show PySem.PyData.canLay0 (.str i) = true from h]
  rfl
theorem vEqS {i j : Str} (h1 : PySem.PyData.strOk i = true) (h2 : PySem.PyData.strOk j = true) : gEq (.str i) (.str j) = some (.bl (i == j)) := if_pos ⟨okP_str h1, okP_str h2⟩
theorem vNeS {i j : Str} (h1 : PySem.PyData.strOk i = true) (h2 : PySem.PyData.strOk j = true) : gNe (.str i) (.str j) = some (.bl (!(i == j))) := if_pos ⟨okP_str h1, okP_str h2⟩
theorem x_fz_obj {ns : List Str} : isFz (.obj false c ns ds) = true := rfl
theorem x_fr_obj {ns : List Str} : freeze (.obj false c ns ds) = .obj false c ns ds := rfl
theorem x_make {m : MA} {ns : List Str} : eMake c ns m τ = (m τ).bind fun ds τ1 => if ds.length = ns.length then .ok (.obj false c ns (freezeL ds)) τ1 else .bad := rfl
theorem x_fld {b : Bool} {f c' : Str} {ns : List Str} : gFld c f (.obj b c' ns ds) = if c' = c then lookD f ns ds else none := rfl
theorem x_look {f n : Str} {ns : List Str} : lookD f (n :: ns) (d :: ds) = if f = n then some d else lookD f ns ds := rfl
def methC (o : Option (List D → CR)) (b : Bool) (d : D) (ma : MA) (τ1 : Env) : R D := match o with
  | some g => if b = true then .bad else (ma τ1).bind fun ds τ2 => ofC (g (d :: freezeL ds)) τ2
  | none => .bad
def methA (As : List (Str × (List D → CR))) (m : Str) (d : D) (ma : MA) (τ1 : Env) : R D := match d with
  | .obj false c ns xs => methC (As.lookup c) (ns.contains m) (.obj false c ns xs) ma τ1
  | _ => .bad
theorem x_meth {As : List (Str × (List D → CR))} {m : Str} {mo : ME} {ma : MA} : eMeth As m mo ma τ = (mo τ).bind fun d τ1 => methA As m d ma τ1 := by
  show (mo τ).bind _ = _
  congr 1
theorem x_meth2 {As : List (Str × (List D → CR))} {m : Str} {ns : List Str} {ma : MA} : methA As m (.obj false c ns ds) ma τ = methC (As.lookup c) (ns.contains m) (.obj false c ns ds) ma τ := rfl
theorem x_meth3 {g : List D → CR} {ma : MA} : methC (some g) false d ma τ = (ma τ).bind fun ds τ2 => ofC (g (d :: freezeL ds)) τ2 := rfl
def isOD (tbl : Str → Option Bool) (o : Option D) : Option D := o.bind fun d => match d with
  | .obj _ c _ _ => (tbl c).map D.bl
  | _ => none
theorem x_isO {tbl : Str → Option Bool} {m : MZ} : zIsO tbl m τ = isOD tbl (m τ) := rfl
theorem x_isO1 {tbl : Str → Option Bool} {b : Bool} {ns : List Str} : isOD tbl (some (.obj b c ns ds)) = (tbl c).map D.bl := rfl
theorem x_cat {a b : ME} : eCat a b τ = (a τ).bind fun x τ1 => (b τ1).bind fun y τ2 => slE' (catD (freeze x) (freeze y)) τ2 := rfl
theorem x_cat1 : slE' (some d) τ = .ok d τ := rfl
theorem vCat {xs ys : List D} (h : xs.length + ys.length ≤ 1000000) : catD (.lst false xs) (.lst false ys) = some (.lst true (xs ++ ys)) := if_pos h
def callZ (g : List D → CR) (o : Option (List D)) (τ : Env) : R D := match o with
  | some ds => lendR (g (freezeL ds)) τ
  | none => .bad
def methZC (o : Option (List D → CR)) (b : Bool) (d : D) (a : Option (List D)) (τ1 : Env) : R D := match o with
  | some g => if b = true then .bad else (match a with
    | some ds => lendR (g (d :: freezeL ds)) τ1
    | none => .bad)
  | none => .bad
def methZA (As : List (Str × (List D → CR))) (m : Str) (d : D) (a : Option (List D)) (τ1 : Env) : R D := match d with
  | .obj false c ns xs => methZC (As.lookup c) (ns.contains m) (.obj false c ns xs) a τ1
  | _ => .bad
theorem x_methZ {As : List (Str × (List D → CR))} {m : Str} {mo : ME} {ma : Env → Option (List D)} : eMethZ As m mo ma τ = (mo τ).bind fun d τ1 => methZA As m d (ma τ1) τ1 := by
  show (mo τ).bind _ = _
  congr 1
  all_goals (
    funext d τ1
    cases d with
    | obj b c ns xs =>
      cases b with
      | true => rfl
      | false =>
        unfold methZA methZC
        cases As.lookup c <;> rfl
    | _ => rfl)
def setIx1 (o : Option D) (k : Option D) (i : Nat) (d : D) (τ1 : Env) : SR := match o with
  | some (.lst true es) => (match k with
    | some (.int k) => (match setD es k d with
      | some es' => .nx (τ1.set i (some (.lst true es')))
      | none => .bad)
    | _ => .bad)
  | _ => .bad
def setIx2 (o : Option (List D)) (i : Nat) (τ1 : Env) : SR := match o with
  | some es' => .nx (τ1.set i (some (.lst true es')))
  | none => .bad
theorem x_methZ2 {As : List (Str × (List D → CR))} {m : Str} {ns : List Str} {a : Option (List D)} : methZA As m (.obj false c ns ds) a τ = methZC (As.lookup c) (ns.contains m) (.obj false c ns ds) a τ := rfl
theorem x_methZ3 {g : List D → CR} : methZC (some g) false d (some ds) τ = lendR (g (d :: freezeL ds)) τ := rfl
theorem x_callZ {g : List D → CR} {m : Env → Option (List D)} : eCallZ g m τ = callZ g (m τ) τ := rfl
theorem x_callZ1 {g : List D → CR} : callZ g (some ds) τ = lendR (g (freezeL ds)) τ := rfl
theorem x_lend1 : lendR (.ok d) τ = if clean d = true then .ok d τ else .bad := rfl
theorem x_lend2 : lendR (.ex c) τ = .ex c τ := rfl
theorem x_cl_int {i : Int} : clean (.int i) = true := rfl
theorem x_cl_bl {i : Bool} : clean (.bl i) = true := rfl
theorem x_cl_str {i : Str} : clean (.str i) = true := rfl
theorem x_cl_non : clean .non = true := rfl
theorem x_cl_tup : clean (.tup ds) = cleanL ds := rfl
theorem x_cl0 : cleanL [] = true := rfl
theorem x_cl1 : cleanL (d :: ds) = (clean d && cleanL ds) := rfl
theorem x_cl_lst : clean (.lst true ds) = cleanL ds := Bool.true_and _
theorem x_setIx {mi : MZ} {m : ME} : sSetIx i mi m τ = (m τ).s fun d τ1 => setIx1 (τ1.getD i none) (mi τ1) i d τ1 := rfl
theorem x_setIx1 {k : Int} : setIx1 (some (.lst true ds)) (some (.int k)) i d τ = setIx2 (setD ds k d) i τ := rfl
def lcB (o : Option D) (own : List Nat) (i : Nat) (g : D → Env → Option Env) (t : MT) (m : ME) (τ : Env) : R D := match o with
  | some (.lst true es) => if es.all isFz = true then (match lcL own g t m es [] (wipeE (τ.set i none) own) with
    | .ok acc τ2 => .ok (.lst true acc) (τ2.set i (some (.lst true es)))
    | _ => .bad) else .bad
  | _ => .bad
theorem lcB_ok {own : List Nat} {g : D → Env → Option Env} {t : MT} {m : ME} {es acc : List D} (h : τ.getD i none = some (.lst true es)) (hz : es.all isFz = true) (e : lcL own g t m es [] (wipeE (τ.set i none) own) = .ok acc τ') : eLcB own i g t m τ = .ok (.lst true acc) (τ'.set i (some (.lst true es))) := by
  show lcB (τ.getD i none) own i g t m τ = _
  rw [h]
  show (if es.all isFz = true then (match lcL own g t m es [] (wipeE (τ.set i none) own) with | .ok acc τ2 => R.ok (D.lst true acc) (τ2.set i (some (.lst true es))) | _ => R.bad) else R.bad) = _
  rw [if_pos hz, e]
theorem x_setIx2 : setIx2 (some ds) i τ = .nx (τ.set i (some (.lst true ds))) := rfl
theorem vSetD {es : List D} {j : Nat} {k : Int} (e : k = (j : Nat)) (h : j < es.length) : setD es k d = some (es.set j d) := by
  subst e
  unfold setD ixN
  rw [if_pos (by omega), if_pos (by omega)]
  rfl
theorem vInD {a : D} {m : Bool} {xs : List D} (h1 : okP a = true) (h2 : okP (.lst m xs) = true) : gInD false a (.lst m xs) = some (.bl ((toPs xs).any fun z => PyData.eqv z (toP a))) := if_pos ⟨h1, h2⟩
theorem vNotInD {a : D} {m : Bool} {xs : List D} (h1 : okP a = true) (h2 : okP (.lst m xs) = true) : gInD true a (.lst m xs) = some (.bl (!(toPs xs).any fun z => PyData.eqv z (toP a))) := if_pos ⟨h1, h2⟩
def callI3 (r : CR2) (is : List Nat) (τ2 : Env) : R D := match r with
  | .ok d outs => if outs.length = is.length then .ok d (putD is outs τ2) else .bad
  | .bad => .bad
def callI2 (o : Option (List D × Env)) (g : List D → CR2) (is : List Nat) (ds : List D) : R D := match o with
  | none => .bad
  | some (ios, τ2) => callI3 (g (ios ++ freezeL ds)) is τ2
def takeC (o : Option D) (i : Nat) (is : List Nat) (τ : Env) : Option (List D × Env) := match o with
  | none => none
  | some d => (takeD is (τ.set i none)).map fun p => (d :: p.1, p.2)
def callRI (k : Nat) (r : SR) : CR2 := match r with
  | .nx τ => outR k .non τ
  | .rt d τ => outR k d τ
  | _ => .bad
def outR1 (o : Option (List D)) (d : D) : CR2 := match o with
  | some os => .ok d os
  | none => .bad
def parS (i j : Nat) (r : R (List D)) : SR := r.s fun ds τ1 => match ds with
  | [x, y] => .nx ((τ1.set i (some x)).set j (some y))
  | _ => .bad
def sortR2 (o : Option (List Int)) (τ1 : Env) : R D := match o with
  | some ns => .ok (.lst true ((sortI ns).map D.int)) τ1
  | none => .bad
def sortR (ds : List D) (τ1 : Env) : R D := match ds with
  | [.lst _ es] => sortR2 (intsOf es) τ1
  | _ => .bad
theorem x_callI {g : List D → CR2} {is : List Nat} {m : MA} : eCallI g is m τ = if is.all (fun i => (τ.getD i none).isSome) = true then (m τ).bind fun ds τ1 => callI g is ds τ1 else .bad := rfl
theorem x_callI1 {g : List D → CR2} {is : List Nat} : callI g is ds τ = callI2 (takeD is τ) g is ds := by unfold callI; cases takeD is τ <;> rfl
theorem x_callI2 {g : List D → CR2} {is : List Nat} {ios : List D} : callI2 (some (ios, τ)) g is ds = callI3 (g (ios ++ freezeL ds)) is τ := rfl
theorem x_callI3 {is : List Nat} : callI3 (.ok d ds) is τ = if ds.length = is.length then .ok d (putD is ds τ) else .bad := rfl
theorem x_take0 : takeD [] τ = some ([], τ) := rfl
theorem x_take1 {is : List Nat} : takeD (i :: is) τ = takeC (τ.getD i none) i is τ := by show (match τ.getD i none with | none => none | some d => _) = _; cases τ.getD i none <;> rfl
theorem x_take2 {is : List Nat} : takeC (some d) i is τ = (takeD is (τ.set i none)).map fun p => (d :: p.1, p.2) := rfl
theorem x_put0 : putD [] [] τ = τ := rfl
theorem x_put1 {is : List Nat} : putD (i :: is) (d :: ds) τ = putD is ds (τ.set i (some d)) := rfl
theorem x_cFI {n N k : Nat} {b : MS} : callFI n N k b ds = if ds.length = n then callRI k (b (ds.map some ++ List.replicate (N - n) none)) else .bad := rfl
theorem x_cRI1 {k : Nat} : callRI k (.nx τ) = outR k .non τ := rfl
theorem x_cRI2 {k : Nat} : callRI k (.rt d τ) = outR k d τ := rfl
theorem x_outR {k : Nat} : outR k d τ = outR1 (outsE k τ) d := by unfold outR outR1; cases outsE k τ <;> rfl
theorem x_outR1 : outR1 (some ds) d = .ok d ds := rfl
theorem x_out1 {a : D} : outsE 1 (some a :: τ) = some [a] := rfl
theorem x_out2 {a b : D} : outsE 2 (some a :: some b :: τ) = some [a, b] := rfl
theorem x_par {j : Nat} {m : MA} : sPar i j m τ = parS i j (m τ) := rfl
theorem x_par1 {j : Nat} {a b : D} : parS i j (.ok [a, b] τ) = .nx ((τ.set i (some a)).set j (some b)) := rfl
theorem x_sort {m : MA} : eSorted m τ = (m τ).bind fun ds τ1 => sortR (freezeL ds) τ1 := rfl
theorem x_sort1 {b : Bool} : sortR [.lst b ds] τ = sortR2 (intsOf ds) τ := rfl
theorem x_sort2 {ns : List Int} : sortR2 (some ns) τ = .ok (.lst true ((sortI ns).map D.int)) τ := rfl
theorem x_io2 {a b : Int} : intsOf [.int a, .int b] = some [a, b] := rfl
theorem x_io4 {a b c d : Int} : intsOf [.int a, .int b, .int c, .int d] = some [a, b, c, d] := rfl
theorem vMulS {i j : Int} (h : CMul i j) : gMulS (.int i) (.int j) = some (.int (i * j)) := if_pos h
theorem vIsB {a b : Bool} : gIsB (.bl a) (.bl b) = some (.bl (decide (a = b))) := rfl
theorem vIndex {a : D} {m : Bool} {xs : List D} (h1 : okP a = true) (h2 : okP (.lst m xs) = true) {j : Nat} (h : findP (toP a) (toPs xs) 0 = some j) : gIndex (.lst m xs) a = some (.int (j : Nat)) := by
  show (if okP a = true ∧ okP (.lst m xs) = true then (findP (toP a) (toPs xs) 0).map fun j => D.int (j : Nat) else none) = _
  rw [if_pos ⟨h1, h2⟩, h]; rfl
def lrD (d : D) (τ : Env) : R D := match d with
  | .lst _ es => .ok (.lst true es.reverse) τ
  | _ => .bad
def clrT (o : Option D) (i : Nat) (τ : Env) : SR := match o with
  | some (.lst true _) => .nx (τ.set i (some (.lst true [])))
  | _ => .bad
def clrE (o : Option D) (i j : Nat) (τ : Env) : SR := match o with
  | some (.lst true es) => if es.all isOwnL = true ∧ j < τ.length then .nx ((τ.set j none).set i (some (.lst true (clrL es.length es)))) else .bad
  | _ => .bad
def popS (o : Option (List D)) (i : Nat) (τ : Env) : SR := match o with
  | some es' => .nx (τ.set i (some (.lst true es')))
  | none => .bad
def popT (o k : Option D) (i : Nat) (τ : Env) : SR := match o with
  | some (.lst true es) => (match k with
    | some (.int k) => popS (popD es k) i τ
    | _ => .bad)
  | _ => .bad
def insS (o : Option D) (k : Int) (i : Nat) (d : D) (τ1 : Env) : SR := match o with
  | some (.lst true es) => if es.length < 1000000 ∧ 0 ≤ k ∧ k < 2 ^ 63 then .nx (τ1.set i (some (.lst true (es.take k.toNat ++ [d] ++ es.drop k.toNat)))) else .bad
  | _ => .bad
def insT (o k : Option D) (i : Nat) (r : R D) : SR := match o, k with
  | some (.lst true _), some (.int k) => r.s fun d τ1 => insS (τ1.getD i none) k i d τ1
  | _, _ => .bad
theorem x_pop {mi : MZ} : sPopAt i mi τ = popT (τ.getD i none) (mi τ) i τ := by
  unfold sPopAt popT popS
  rfl
theorem x_lr {m : ME} : eLstRev m τ = (m τ).bind fun d τ1 => lrD (freeze d) τ1 := rfl
theorem x_lr1 {b : Bool} : lrD (.lst b ds) τ = .ok (.lst true ds.reverse) τ := rfl
theorem x_clr : sClear i τ = clrT (τ.getD i none) i τ := rfl
theorem x_clr1 : clrT (some (.lst true ds)) i τ = .nx (τ.set i (some (.lst true []))) := rfl
theorem x_clrE {j : Nat} : sClearEach i j τ = clrE (τ.getD i none) i j τ := rfl
theorem x_clrE1 {j : Nat} : clrE (some (.lst true ds)) i j τ = if ds.all isOwnL = true ∧ j < τ.length then .nx ((τ.set j none).set i (some (.lst true (clrL ds.length ds)))) else .bad := rfl
theorem x_pop1 {k : Int} : popT (some (.lst true ds)) (some (.int k)) i τ = popS (popD ds k) i τ := rfl
theorem x_pop2 : popS (some ds) i τ = .nx (τ.set i (some (.lst true ds))) := rfl
theorem x_ins {mi : MZ} {m : ME} : sIns i mi m τ = insT (τ.getD i none) (mi τ) i (m τ) := rfl
theorem x_ins1 {k : Int} {r : R D} : insT (some (.lst true ds)) (some (.int k)) i r = r.s fun d τ1 => insS (τ1.getD i none) k i d τ1 := rfl
theorem x_ins2 {k : Int} : insS (some (.lst true ds)) k i d τ = if ds.length < 1000000 ∧ 0 ≤ k ∧ k < 2 ^ 63 then .nx (τ.set i (some (.lst true (ds.take k.toNat ++ [d] ++ ds.drop k.toNat)))) else .bad := rfl
end
end Bn

/-! Plain helpers: data equal to itself, loops, comprehensions, ranges. -/
namespace Bn
open PySem L2
/-- data, nested at most n deep -/
structure Ok (n : Nat) (d : D) : Prop where
  h : hasP d = true
  l : (toP d).canLay0 = true
  d : (toP d).depth ≤ n
theorem ok_int {n : Nat} (i : Int) : Ok n (.int i) := ⟨rfl, by simp [toP, PyData.canLay0], by simp [toP, PyData.depth]⟩
theorem ok_bl {n : Nat} (i : Bool) : Ok n (.bl i) := ⟨rfl, by simp [toP, PyData.canLay0], by simp [toP, PyData.depth]⟩
theorem ok_non {n : Nat} : Ok n .non := ⟨rfl, by simp [toP, PyData.canLay0], by simp [toP, PyData.depth]⟩
theorem ok_str {n : Nat} {i : Str} (h : PyData.strOk i = true) : Ok n (.str i) := ⟨rfl, by simpa [toP, PyData.canLay0] using h, by simp [toP, PyData.depth]⟩
theorem ok_all {n : Nat} : ∀ {ds : List D}, (∀ d ∈ ds, Ok n d) → hasPs ds = true ∧ PyData.canLayAll0 (toPs ds) = true ∧ PyData.depthAll (toPs ds) ≤ n
  | [], _ => ⟨rfl, rfl, Nat.zero_le _⟩
  | d :: ds, h => by
    obtain ⟨h1, h2, h3⟩ := h d List.mem_cons_self
    obtain ⟨k1, k2, k3⟩ := ok_all fun e he => h e (List.mem_cons_of_mem _ he)
    refine ⟨?_, ?_, ?_⟩
    · show (hasP d && hasPs ds) = true
      rw [h1, k1]; rfl
    · show PyData.canLayAll0 (toP d :: toPs ds) = true
      simp [PyData.canLayAll0, h2, k2]
    · show PyData.depthAll (toP d :: toPs ds) ≤ n
      simp only [PyData.depthAll]
      omega
theorem ok_tup {n : Nat} {ds : List D} (h : ∀ d ∈ ds, Ok n d) : Ok (n + 1) (.tup ds) := by
  obtain ⟨h1, h2, h3⟩ := ok_all h
  exact ⟨h1, by simpa [toP, PyData.canLay0] using h2, by simp only [toP, PyData.depth]; omega⟩
theorem ok_lst {n : Nat} {b : Bool} {ds : List D} (h : ∀ d ∈ ds, Ok n d) : Ok (n + 1) (.lst b ds) := by
  obtain ⟨h1, h2, h3⟩ := ok_all h
  exact ⟨h1, by simpa [toP, PyData.canLay0] using h2, by simp only [toP, PyData.depth]; omega⟩
theorem Ok.p {n : Nat} {d : D} (h : Ok n d) (hn : n ≤ 64 := by decide) : okP d = true := by
  unfold okP SeqAt.shaped
  rw [h.h, h.l, decide_eq_true (Nat.le_trans h.d hn)]; rfl
theorem eqP_self {n : Nat} {a b : D} (h : Ok n a) (e : toP b = toP a) : eqP a b = true := by
  unfold eqP
  rw [e]
  exact SeqAt.eqv_refl _ h.l
theorem vEqX {n : Nat} {a b : D} (h : Ok n a) (k : Ok n b) (e : toP b = toP a) (hn : n ≤ 64 := by decide) : gEq a b = some (.bl true) := by
  unfold gEq
  rw [if_pos ⟨h.p hn, k.p hn⟩, eqP_self h e]
theorem vNeX {n : Nat} {a b : D} (h : Ok n a) (k : Ok n b) (e : toP b = toP a) (hn : n ≤ 64 := by decide) : gNe a b = some (.bl false) := by
  unfold gNe
  rw [if_pos ⟨h.p hn, k.p hn⟩, eqP_self h e]; rfl
theorem toP_lst (b b' : Bool) (ds : List D) : toP (.lst b ds) = toP (.lst b' ds) := by simp only [toP]
/-! ### walks over lists -/
section
variable {g : D → Env → Option Env} {b : MS} {own : List Nat} {t : MT} {m : ME}
/-- a loop with an invariant of the turn's number -/
theorem for_idx (I : Nat → Env → Prop) : ∀ (items : List D) (k0 : Nat) (τ : Env), (∀ k d τ, items[k]? = some d → I (k0 + k) τ → ∃ τ1 τ2, g d τ = some τ1 ∧ (b τ1 = .nx τ2 ∨ b τ1 = .ct τ2) ∧ I (k0 + k + 1) τ2) → I k0 τ → ∃ τ', forL g b items τ = .nx τ' ∧ I (k0 + items.length) τ'
  | [], k0, τ, _, h => ⟨τ, rfl, h⟩
  | d :: ds, k0, τ, hs, h => by
    obtain ⟨τ1, τ2, e1, e2, h2⟩ := hs 0 d τ rfl h
    obtain ⟨τ', e3, h3⟩ := for_idx I ds (k0 + 1) τ2 (fun k d τ hk hI => by
      have := hs (k + 1) d τ (by rw [List.getElem?_cons_succ]; exact hk) (by rw [show k0 + (k + 1) = k0 + 1 + k by omega]; exact hI)
      rw [show k0 + (k + 1) + 1 = k0 + 1 + k + 1 by omega] at this
      exact this) h2
    refine ⟨τ', ?_, ?_⟩
    · rw [x_fo1, e1]
      show forB (b τ1) _ = _
      rcases e2 with e2 | e2 <;> rw [e2]
      · exact e3
      · exact e3
    · rw [List.length_cons, show k0 + (ds.length + 1) = k0 + 1 + ds.length by omega]; exact h3
theorem for_inv (I : Env → Prop) (items : List D) (τ : Env) (hs : ∀ d ∈ items, ∀ τ, I τ → ∃ τ1 τ2, g d τ = some τ1 ∧ (b τ1 = .nx τ2 ∨ b τ1 = .ct τ2) ∧ I τ2) (h : I τ) : ∃ τ', forL g b items τ = .nx τ' ∧ I τ' :=
  for_idx (fun _ => I) items 0 τ (fun k d τ hk hI => hs d (List.mem_of_getElem? hk) τ hI) h
/-- two lists, item by item -/
def All2 (P : D → D → Prop) : List D → List D → Prop
  | [], [] => True
  | x :: xs, y :: ys => P x y ∧ All2 P xs ys
  | _, _ => False
theorem All2.length {P : D → D → Prop} : ∀ {xs ys : List D}, All2 P xs ys → xs.length = ys.length
  | [], [], _ => rfl
  | _ :: _, [], h => h.elim
  | [], _ :: _, h => h.elim
  | _ :: _, _ :: _, h => by rw [List.length_cons, List.length_cons, h.2.length]
/-- a comprehension without a test, whose every turn leaves the names as they were -/
theorem lc_all (P : D → D → Prop) (τ : Env) : ∀ (items acc : List D), acc.length + items.length ≤ 1000000 → (∀ d ∈ items, ∃ e τ1 τ2, g d τ = some τ1 ∧ m τ1 = .ok e τ2 ∧ wipeE τ2 own = τ ∧ P d e) → ∃ es, All2 P items es ∧ lcL own g tTrue m items acc τ = .ok (acc ++ es) τ
  | [], acc, _, _ => ⟨[], trivial, by rw [List.append_nil]; rfl⟩
  | d :: ds, acc, hl, h => by
    obtain ⟨e, τ1, τ2, e1, e2, e3, p⟩ := h d List.mem_cons_self
    rw [List.length_cons] at hl
    obtain ⟨es, q, e4⟩ := lc_all P τ ds (acc ++ [e]) (by rw [List.length_append]; simp only [List.length_cons, List.length_nil]; omega) fun d' hd => h d' (List.mem_cons_of_mem _ hd)
    refine ⟨e :: es, ⟨p, q⟩, ?_⟩
    rw [x_lc1, e1, x_lcG, x_tTrue, x_b1, if_pos rfl, e2, x_b1, if_pos (by omega), e3, e4, List.append_assoc]
    rfl
theorem lc_map {α : Type} (f : α → D) (P : D → D → Prop) (hP : ∀ d e, P d e → ∃ x, e = f x) : ∀ {items es : List D}, All2 P items es → ∃ xs : List α, es = List.map f xs
  | [], [], _ => ⟨[], rfl⟩
  | _ :: _, [], h => h.elim
  | [], _ :: _, h => h.elim
  | d :: _, e :: es, ⟨h1, h2⟩ => by
    obtain ⟨x, rfl⟩ := hP d e h1
    obtain ⟨xs, rfl⟩ := lc_map f P hP h2
    exact ⟨x :: xs, rfl⟩
theorem All2.right {P : D → D → Prop} {Q : D → Prop} (hP : ∀ d e, P d e → Q e) : ∀ {items es : List D}, All2 P items es → ∀ e ∈ es, Q e
  | [], [], _ => by simp
  | _ :: _, [], h => h.elim
  | [], _ :: _, h => h.elim
  | d :: _, e :: es, ⟨h1, h2⟩ => by
    intro x hx
    rcases List.mem_cons.mp hx with rfl | hx
    · exact hP _ _ h1
    · exact All2.right hP h2 x hx
end
theorem fz_map {α : Type} {f : α → D} (h : ∀ p, freeze (f p) = f p) : ∀ xs : List α, freezeL (xs.map f) = xs.map f
  | [] => rfl
  | x :: xs => by rw [List.map_cons, x_fL1, h, fz_map h xs]
/-! ### ranges -/
theorem length_rangeD (lo : Int) (n : Nat) : (rangeD lo n).length = n := by simp [rangeD]
theorem rangeD_get {lo : Int} {n k : Nat} {d : D} (h : (rangeD lo n)[k]? = some d) : k < n ∧ d = .int (lo + (k : Nat)) := by
  unfold rangeD at h
  rw [List.getElem?_map] at h
  by_cases z : k < n
  · rw [List.getElem?_range z] at h
    exact ⟨z, by simpa using h.symm⟩
  · rw [List.getElem?_eq_none (by simp; omega)] at h
    cases h
theorem mem_rangeD {lo : Int} {n : Nat} {d : D} (h : d ∈ rangeD lo n) : ∃ k : Nat, k < n ∧ d = .int (lo + (k : Nat)) := by
  obtain ⟨k, hk⟩ := List.mem_iff_getElem?.mp h
  exact ⟨k, rangeD_get hk⟩
section
variable {ma : MA} {g : D → Env → Option Env} {b : MS} {own : List Nat} {t : MT} {m : ME} {τ τ1 τ2 : Env}
theorem x_range {N : Int} {n : Nat} (h : ma τ = .ok [.int N] τ1) (h1 : 0 ≤ N) (h2 : N < 1000000) (e : N.toNat = n) : iR1 ma τ = .ok (rangeD 0 n) τ1 := by
  rw [x_iR1, h, x_b1, x_iR11 (by omega) (by omega), e]
theorem x_for_range {N : Int} {n : Nat} (h : ma τ = .ok [.int N] τ1) (h1 : 0 ≤ N) (h2 : N < 1000000) (e : N.toNat = n) : sFor (iR1 ma) g b τ = forL g b (rangeD 0 n) τ1 := by
  rw [x_for, x_range h h1 h2 e, x_s1]
theorem x_lc_range {N : Int} {n : Nat} (h : ma τ = .ok [.int N] τ1) (h1 : 0 ≤ N) (h2 : N < 1000000) (e : N.toNat = n) : eLc own (iR1 ma) g t m τ = lcE (lcL own g t m (rangeD 0 n) [] (wipeE τ1 own)) := by
  rw [x_lc, x_range h h1 h2 e, x_b1]
theorem x_cat_ok {ea eb : ME} {x y d : D} (h1 : ea τ = .ok x τ1) (h2 : eb τ1 = .ok y τ2) (h3 : catD (freeze x) (freeze y) = some d) : eCat ea eb τ = .ok d τ2 := by
  rw [x_cat, h1, x_b1, h2, x_b1, h3, x_cat1]
theorem x_asg_ok {gg : D → Env → Option Env} {d : D} (h : m τ = .ok d τ1) (k : gg d τ1 = some τ2) : sAsg m gg τ = .nx τ2 := by
  rw [x_asg, h, x_asg1, k, x_asg4]
theorem x_seq_ok {a c : MS} {r : SR} (h : a τ = .nx τ1) (k : c τ1 = r) : sSeq a c τ = r := by
  rw [x_seq, h, x_seq1, k]
theorem cut_map {α β : Type} (f : α → β) (xs : List α) (lo hi : Option Int) : cutL (xs.map f) lo hi = (cutL xs lo hi).map f := by
  unfold cutL
  rw [List.length_map, List.map_take, List.map_drop]
theorem cut_length_le {α : Type} (xs : List α) (lo hi : Option Int) : (cutL xs lo hi).length ≤ xs.length := by
  unfold cutL
  rw [List.length_take, List.length_drop]
  omega
end
theorem vIxL_of {b : Bool} {xs : List D} {i : Int} {d : D} {k : Nat} (e : i = (k : Nat)) (h : xs[k]? = some d) : gIx (.lst b xs) (.int i) = some d := by
  subst e; rw [vIxL, h]
theorem ix_map {α : Type} (f : α → D) (xs : List α) {i : Int} (h0 : 0 ≤ i) (h1 : i < xs.length) : ∃ x ∈ xs, ∀ b, gIx (.lst b (xs.map f)) (.int i) = some (f x) := by
  obtain ⟨k, rfl⟩ : ∃ k : Nat, i = k := ⟨i.toNat, by omega⟩
  have hk : k < xs.length := by omega
  refine ⟨xs[k], List.getElem_mem hk, fun b => ?_⟩
  rw [vIxL, List.getElem?_map, List.getElem?_eq_getElem hk]; rfl
theorem cF_ok {n N : Nat} {b : MS} {ds : List D} {τ0 : Env} {r : SR} (hl : ds.length = n) (hτ : ds.map some ++ List.replicate (N - n) none = τ0) (h : b τ0 = r) : callF n N b ds = callR r := by
  rw [x_cF, if_pos hl, hτ, h]
end Bn

namespace Lw
open PySem PySem.Spec PyProof.Rows L2 Bn
/-! ### the text -/
def topS (i : Nat) : Stmt := PySem.Challenge.pw_boxnarrow_k41_slopes_of_kinds.main.body.getD i (.Pass ⟨0, 0, 0, 0⟩)
abbrev s__law_grid : Stmt := topS 40
theorem sc__law_grid : FnScope ["_law_cell_here"] ["_law_cell_here"] (defScope s__law_grid) := ⟨rfl, rfl, rfl, by decide +kernel, rfl, by decide +kernel, by decide +kernel⟩
abbrev s__law_first : Stmt := topS 52
theorem sc__law_first : FnScope ["_law_cell_here", "_law_size", "_law_count", "_law_nodes", "_law_k"] ["_law_cell_here", "_law_size"] (defScope s__law_first) := ⟨rfl, rfl, rfl, by decide +kernel, rfl, by decide +kernel, by decide +kernel⟩
abbrev s__law_plus : Stmt := topS 43
theorem sc__law_plus : FnScope ["_law_a", "_law_b"] ["_law_a", "_law_b"] (defScope s__law_plus) := ⟨rfl, rfl, rfl, by decide +kernel, rfl, by decide +kernel, by decide +kernel⟩
abbrev s__law_product : Stmt := topS 45
theorem sc__law_product : FnScope ["_law_a", "_law_b", "_law_grid_here", "_law_four"] ["_law_a", "_law_b", "_law_grid_here"] (defScope s__law_product) := ⟨rfl, rfl, rfl, by decide +kernel, rfl, by decide +kernel, by decide +kernel⟩
abbrev s__law_less : Stmt := topS 44
theorem sc__law_less : FnScope ["_law_a", "_law_b"] ["_law_a", "_law_b"] (defScope s__law_less) := ⟨rfl, rfl, rfl, by decide +kernel, rfl, by decide +kernel, by decide +kernel⟩
abbrev s__law_often : Stmt := topS 42
theorem sc__law_often : FnScope ["_law_a", "_law_many", "_law_found", "_law_turn"] ["_law_a", "_law_many"] (defScope s__law_often) := ⟨rfl, rfl, rfl, by decide +kernel, rfl, by decide +kernel, by decide +kernel⟩
abbrev s__law_raised : Stmt := topS 46
theorem sc__law_raised : FnScope ["_law_a", "_law_many", "_law_grid_here", "_law_ends", "_law_share"] ["_law_a", "_law_many", "_law_grid_here"] (defScope s__law_raised) := ⟨rfl, rfl, rfl, by decide +kernel, rfl, by decide +kernel, by decide +kernel⟩
abbrev s__law_factor : Stmt := topS 49
theorem sc__law_factor : FnScope ["_law_a", "_law_many", "_law_grid_here"] ["_law_a", "_law_many", "_law_grid_here"] (defScope s__law_factor) := ⟨rfl, rfl, rfl, by decide +kernel, rfl, by decide +kernel, by decide +kernel⟩
abbrev s__law_slope : Stmt := topS 50
theorem sc__law_slope : FnScope ["_law_node", "_law_spans_here", "_law_made", "_law_k", "_law_grid_here", "_law_word", "_law_one", "_law_other"] ["_law_node", "_law_spans_here", "_law_made", "_law_k", "_law_grid_here"] (defScope s__law_slope) := ⟨rfl, rfl, rfl, by decide +kernel, rfl, by decide +kernel, by decide +kernel⟩
abbrev s__law_slopes : Stmt := topS 51
theorem sc__law_slopes : FnScope ["_law_nodes", "_law_spans_here", "_law_size", "_law_grid_here", "_law_made", "_law_node", "_law_k"] ["_law_nodes", "_law_spans_here", "_law_size", "_law_grid_here"] (defScope s__law_slopes) := ⟨rfl, rfl, rfl, by decide +kernel, rfl, by decide +kernel, by decide +kernel⟩
abbrev s_kind_of : Stmt := topS 22
theorem sc_kind_of : FnScope ["node"] ["node"] (defScope s_kind_of) := ⟨rfl, rfl, rfl, by decide +kernel, rfl, by decide +kernel, by decide +kernel⟩
abbrev s_less : Stmt := topS 5
theorem sc_less : FnScope ["a", "b"] ["a", "b"] (defScope s_less) := ⟨rfl, rfl, rfl, by decide +kernel, rfl, by decide +kernel, by decide +kernel⟩
abbrev s_span_of : Stmt := topS 7
theorem sc_span_of : FnScope ["low", "high", "grid"] ["low", "high", "grid"] (defScope s_span_of) := ⟨rfl, rfl, rfl, by decide +kernel, rfl, by decide +kernel, by decide +kernel⟩
abbrev s_Number_forth : Stmt := inClass (topS 16) 2
theorem sc_Number_forth : FnScope ["self", "spans", "box", "grid"] ["self", "spans", "box", "grid"] (defScope s_Number_forth) := ⟨rfl, rfl, rfl, by decide +kernel, rfl, by decide +kernel, by decide +kernel⟩
abbrev s_Unknown_forth : Stmt := inClass (topS 17) 2
theorem sc_Unknown_forth : FnScope ["self", "spans", "box", "grid"] ["self", "spans", "box", "grid"] (defScope s_Unknown_forth) := ⟨rfl, rfl, rfl, by decide +kernel, rfl, by decide +kernel, by decide +kernel⟩
abbrev s_add_spans : Stmt := topS 8
theorem sc_add_spans : FnScope ["a", "b"] ["a", "b"] (defScope s_add_spans) := ⟨rfl, rfl, rfl, by decide +kernel, rfl, by decide +kernel, by decide +kernel⟩
abbrev s_Plus_forth : Stmt := inClass (topS 18) 2
theorem sc_Plus_forth : FnScope ["self", "spans", "box", "grid"] ["self", "spans", "box", "grid"] (defScope s_Plus_forth) := ⟨rfl, rfl, rfl, by decide +kernel, rfl, by decide +kernel, by decide +kernel⟩
abbrev s_take_spans : Stmt := topS 9
theorem sc_take_spans : FnScope ["a", "b"] ["a", "b"] (defScope s_take_spans) := ⟨rfl, rfl, rfl, by decide +kernel, rfl, by decide +kernel, by decide +kernel⟩
abbrev s_Minus_forth : Stmt := inClass (topS 19) 2
theorem sc_Minus_forth : FnScope ["self", "spans", "box", "grid"] ["self", "spans", "box", "grid"] (defScope s_Minus_forth) := ⟨rfl, rfl, rfl, by decide +kernel, rfl, by decide +kernel, by decide +kernel⟩
abbrev s_mul_spans : Stmt := topS 10
theorem sc_mul_spans : FnScope ["a", "b", "grid", "corners"] ["a", "b", "grid"] (defScope s_mul_spans) := ⟨rfl, rfl, rfl, by decide +kernel, rfl, by decide +kernel, by decide +kernel⟩
abbrev s_Times_forth : Stmt := inClass (topS 20) 2
theorem sc_Times_forth : FnScope ["self", "spans", "box", "grid"] ["self", "spans", "box", "grid"] (defScope s_Times_forth) := ⟨rfl, rfl, rfl, by decide +kernel, rfl, by decide +kernel, by decide +kernel⟩
abbrev s_multiplied : Stmt := topS 11
theorem sc_multiplied : FnScope ["a", "many", "found", "turn"] ["a", "many"] (defScope s_multiplied) := ⟨rfl, rfl, rfl, by decide +kernel, rfl, by decide +kernel, by decide +kernel⟩
abbrev s_raise_span : Stmt := topS 12
theorem sc_raise_span : FnScope ["a", "many", "grid", "share", "first", "last", "low"] ["a", "many", "grid"] (defScope s_raise_span) := ⟨rfl, rfl, rfl, by decide +kernel, rfl, by decide +kernel, by decide +kernel⟩
abbrev s_Power_forth : Stmt := inClass (topS 21) 2
theorem sc_Power_forth : FnScope ["self", "spans", "box", "grid"] ["self", "spans", "box", "grid"] (defScope s_Power_forth) := ⟨rfl, rfl, rfl, by decide +kernel, rfl, by decide +kernel, by decide +kernel⟩
abbrev s_worths : Stmt := topS 24
theorem sc_worths : FnScope ["nodes", "box", "grid", "found", "node"] ["nodes", "box", "grid"] (defScope s_worths) := ⟨rfl, rfl, rfl, by decide +kernel, rfl, by decide +kernel, by decide +kernel⟩
abbrev s_flat : Stmt := topS 26
theorem sc_flat : FnScope ["size", "k"] ["size"] (defScope s_flat) := ⟨rfl, rfl, rfl, by decide +kernel, rfl, by decide +kernel, by decide +kernel⟩
abbrev s_scale_span : Stmt := topS 13
theorem sc_scale_span : FnScope ["a", "many"] ["a", "many"] (defScope s_scale_span) := ⟨rfl, rfl, rfl, by decide +kernel, rfl, by decide +kernel, by decide +kernel⟩
abbrev s_rise : Stmt := topS 27
theorem sc_rise : FnScope ["span", "many", "grid"] ["span", "many", "grid"] (defScope s_rise) := ⟨rfl, rfl, rfl, by decide +kernel, rfl, by decide +kernel, by decide +kernel⟩
abbrev s_slope_of : Stmt := topS 28
theorem sc_slope_of : FnScope ["node", "spans", "made", "size", "grid", "sort", "row", "one", "factor", "part", "other", "k", "first"] ["node", "spans", "made", "size", "grid"] (defScope s_slope_of) := ⟨rfl, rfl, rfl, by decide +kernel, rfl, by decide +kernel, by decide +kernel⟩
abbrev s_slopes : Stmt := topS 29
theorem sc_slopes : FnScope ["nodes", "box", "grid", "spans", "made", "node"] ["nodes", "box", "grid"] (defScope s_slopes) := ⟨rfl, rfl, rfl, by decide +kernel, rfl, by decide +kernel, by decide +kernel⟩
abbrev s__law_whole : Stmt := topS 32
theorem sc__law_whole : FnScope ["_law_found"] ["_law_found"] (defScope s__law_whole) := ⟨rfl, rfl, rfl, by decide +kernel, rfl, by decide +kernel, by decide +kernel⟩
abbrev s__law_span : Stmt := topS 33
theorem sc__law_span : FnScope ["_law_found"] ["_law_found"] (defScope s__law_span) := ⟨rfl, rfl, rfl, by decide +kernel, rfl, by decide +kernel, by decide +kernel⟩
abbrev s__law_spans : Stmt := topS 34
theorem sc__law_spans : FnScope ["_law_found", "_law_size", "_law_span_here"] ["_law_found", "_law_size"] (defScope s__law_spans) := ⟨rfl, rfl, rfl, by decide +kernel, rfl, by decide +kernel, by decide +kernel⟩
abbrev s__law_lists : Stmt := topS 35
theorem sc__law_lists : FnScope ["_law_found", "_law_due", "_law_k"] ["_law_found", "_law_due"] (defScope s__law_lists) := ⟨rfl, rfl, rfl, by decide +kernel, rfl, by decide +kernel, by decide +kernel⟩
abbrev s__law_cell : Stmt := topS 31
theorem sc__law_cell : FnScope ["_law_script", "_law_k"] ["_law_script", "_law_k"] (defScope s__law_cell) := ⟨rfl, rfl, rfl, by decide +kernel, rfl, by decide +kernel, by decide +kernel⟩
abbrev s__law_side : Stmt := topS 41
theorem sc__law_side : FnScope ["_law_cell_here", "_law_other", "_law_low", "_law_wide"] ["_law_cell_here", "_law_other"] (defScope s__law_side) := ⟨rfl, rfl, rfl, by decide +kernel, rfl, by decide +kernel, by decide +kernel⟩
abbrev s__law_lowest : Stmt := topS 36
theorem sc__law_lowest : FnScope ["_law_top", "_law_bottom", "_law_a", "_law_b"] ["_law_top", "_law_bottom"] (defScope s__law_lowest) := ⟨rfl, rfl, rfl, by decide +kernel, rfl, by decide +kernel, by decide +kernel⟩
abbrev s__law_number : Stmt := topS 37
theorem sc__law_number : FnScope ["_law_cell_here"] ["_law_cell_here"] (defScope s__law_number) := ⟨rfl, rfl, rfl, by decide +kernel, rfl, by decide +kernel, by decide +kernel⟩
abbrev s__law_put : Stmt := topS 38
theorem sc__law_put : FnScope ["_law_nodes", "_law_heavy", "_law_node", "_law_weight"] ["_law_nodes", "_law_heavy", "_law_node", "_law_weight"] (defScope s__law_put) := ⟨rfl, rfl, rfl, by decide +kernel, rfl, by decide +kernel, by decide +kernel⟩
abbrev s__law_grow : Stmt := topS 39
theorem sc__law_grow : FnScope ["_law_nodes", "_law_heavy", "_law_cell_here", "_law_most", "_law_one", "_law_other", "_law_weight", "_law_a", "_law_many", "_law_word"] ["_law_nodes", "_law_heavy", "_law_cell_here", "_law_most"] (defScope s__law_grow) := ⟨rfl, rfl, rfl, by decide +kernel, rfl, by decide +kernel, by decide +kernel⟩
abbrev s__law_forth : Stmt := topS 47
theorem sc__law_forth : FnScope ["_law_node", "_law_spans_here", "_law_box", "_law_grid_here", "_law_word", "_law_one", "_law_other"] ["_law_node", "_law_spans_here", "_law_box", "_law_grid_here"] (defScope s__law_forth) := ⟨rfl, rfl, rfl, by decide +kernel, rfl, by decide +kernel, by decide +kernel⟩
abbrev s__law_worths : Stmt := topS 48
theorem sc__law_worths : FnScope ["_law_nodes", "_law_box", "_law_grid_here", "_law_spans_here", "_law_node"] ["_law_nodes", "_law_box", "_law_grid_here"] (defScope s__law_worths) := ⟨rfl, rfl, rfl, by decide +kernel, rfl, by decide +kernel, by decide +kernel⟩
abbrev s_law : Stmt := topS 53
theorem sc_law : FnScope ["_law_script", "_law_size", "_law_grid_here", "_law_box", "_law_k", "_law_nodes", "_law_heavy", "_law_node", "_law_cell_here", "_law_due", "_law_handed", "_law_sides", "_law_found", "_law_row"] ["_law_script"] (defScope s_law) := ⟨rfl, rfl, rfl, by decide +kernel, rfl, by decide +kernel, by decide +kernel⟩
abbrev s_Power___init__ : Stmt := inClass (topS 21) 0
theorem sc_Power___init__ : FnScope ["self", "one", "many"] ["self", "one", "many"] (defScope s_Power___init__) := ⟨rfl, rfl, rfl, by decide +kernel, rfl, by decide +kernel, by decide +kernel⟩
abbrev s_Number___init__ : Stmt := inClass (topS 16) 0
theorem sc_Number___init__ : FnScope ["self", "top", "bottom"] ["self", "top", "bottom"] (defScope s_Number___init__) := ⟨rfl, rfl, rfl, by decide +kernel, rfl, by decide +kernel, by decide +kernel⟩
abbrev s_Unknown___init__ : Stmt := inClass (topS 17) 0
theorem sc_Unknown___init__ : FnScope ["self", "place"] ["self", "place"] (defScope s_Unknown___init__) := ⟨rfl, rfl, rfl, by decide +kernel, rfl, by decide +kernel, by decide +kernel⟩
abbrev s_Plus___init__ : Stmt := inClass (topS 18) 0
theorem sc_Plus___init__ : FnScope ["self", "one", "other"] ["self", "one", "other"] (defScope s_Plus___init__) := ⟨rfl, rfl, rfl, by decide +kernel, rfl, by decide +kernel, by decide +kernel⟩
abbrev s_Minus___init__ : Stmt := inClass (topS 19) 0
theorem sc_Minus___init__ : FnScope ["self", "one", "other"] ["self", "one", "other"] (defScope s_Minus___init__) := ⟨rfl, rfl, rfl, by decide +kernel, rfl, by decide +kernel, by decide +kernel⟩
abbrev s_Times___init__ : Stmt := inClass (topS 20) 0
theorem sc_Times___init__ : FnScope ["self", "one", "other"] ["self", "one", "other"] (defScope s_Times___init__) := ⟨rfl, rfl, rfl, by decide +kernel, rfl, by decide +kernel, by decide +kernel⟩
/-! ### the functions -/
theorem fl_Minus_one {b : Bool} {x0 x1 : D} : gFld "Minus" "one" (.obj b "Minus" ["one", "other"] [x0, x1]) = some x0 := rfl
theorem fl_Minus_other {b : Bool} {x0 x1 : D} : gFld "Minus" "other" (.obj b "Minus" ["one", "other"] [x0, x1]) = some x1 := rfl
theorem fl_Number_bottom {b : Bool} {x0 x1 : D} : gFld "Number" "bottom" (.obj b "Number" ["top", "bottom"] [x0, x1]) = some x1 := rfl
theorem fl_Number_top {b : Bool} {x0 x1 : D} : gFld "Number" "top" (.obj b "Number" ["top", "bottom"] [x0, x1]) = some x0 := rfl
theorem fl_Plus_one {b : Bool} {x0 x1 : D} : gFld "Plus" "one" (.obj b "Plus" ["one", "other"] [x0, x1]) = some x0 := rfl
theorem fl_Plus_other {b : Bool} {x0 x1 : D} : gFld "Plus" "other" (.obj b "Plus" ["one", "other"] [x0, x1]) = some x1 := rfl
theorem fl_Power_many {b : Bool} {x0 x1 : D} : gFld "Power" "many" (.obj b "Power" ["one", "many"] [x0, x1]) = some x1 := rfl
theorem fl_Power_one {b : Bool} {x0 x1 : D} : gFld "Power" "one" (.obj b "Power" ["one", "many"] [x0, x1]) = some x0 := rfl
theorem fl_Times_one {b : Bool} {x0 x1 : D} : gFld "Times" "one" (.obj b "Times" ["one", "other"] [x0, x1]) = some x0 := rfl
theorem fl_Times_other {b : Bool} {x0 x1 : D} : gFld "Times" "other" (.obj b "Times" ["one", "other"] [x0, x1]) = some x1 := rfl
theorem fl_Unknown_place {b : Bool} {x0 : D} : gFld "Unknown" "place" (.obj b "Unknown" ["place"] [x0]) = some x0 := rfl
def caF (a_NoSpan a_Number a_Unknown a_Plus a_Minus a_Times a_Power : Addr) : Str → Addr := fun y => if y = "NoSpan" then a_NoSpan else if y = "Number" then a_Number else if y = "Unknown" then a_Unknown else if y = "Plus" then a_Plus else if y = "Minus" then a_Minus else if y = "Times" then a_Times else if y = "Power" then a_Power else 0
def m__law_grid : MS := (sSeq (sIf (tZ (z2 gEq (z2 gMod (zVar 0) (zC (.int 3))) (zC (.int 0)))) (sRet (eZ (z2 gAdd (zC (.int 1)) (z2 gMod (z2 gDiv (zVar 0) (zC (.int 3))) (zC (.int 1000000)))))) sNil)
    (sSeq (sIf (tZ (z2 gEq (z2 gMod (zVar 0) (zC (.int 3))) (zC (.int 1)))) (sRet (eZ (z2 gAdd (zC (.int 1)) (z2 gMod (z2 gDiv (zVar 0) (zC (.int 3))) (zC (.int 12)))))) sNil)
    (sRet (eZ (zC (.int 64))))))
def f__law_grid : List D → CR := callF 1 1 m__law_grid
def c__law_first_1 : ME := (eLc [4] (iR1 (aCons (eVar 2) aNil)) (gN 4) tTrue (eTup (aCons (eZ (zC (.str "unknown"))) (aCons (eVar 4) aNil))))
def m__law_first : MS := (sSeq (sAsg (eVar 1) (gN 2))
    (sSeq (sIf (tAnd (tZ (z2 gEq (z2 gMod (zVar 0) (zC (.int 5))) (zC (.int 1)))) (tZ (z2 gGt (zVar 1) (zC (.int 1))))) (sAsg (eZ (z2 gSub (zVar 1) (zC (.int 1)))) (gN 2)) sNil)
    (sSeq (sAsg c__law_first_1 (gN 3))
    (sSeq (sIf (tZ (z2 gEq (z2 gMod (z2 gDiv (zVar 0) (zC (.int 5))) (zC (.int 2))) (zC (.int 1)))) (sAsg (eLstRev (eVar 3)) (gN 3)) sNil)
    (sRet (eMv 3))))))
def f__law_first : List D → CR := callF 2 5 m__law_first
def m__law_plus : MS := (sRet (eTup (aCons (eZ (z2 gAdd (z2 gIx (zVar 0) (zC (.int 0))) (z2 gIx (zVar 1) (zC (.int 0))))) (aCons (eZ (z2 gAdd (z2 gIx (zVar 0) (zC (.int 1))) (z2 gIx (zVar 1) (zC (.int 1))))) aNil))))
def f__law_plus : List D → CR := callF 2 2 m__law_plus
def m__law_product : MS := (sSeq (sAsg (eSorted (aCons (eLst (aCons (eZ (z2 gMul (z2 gIx (zVar 0) (zC (.int 0))) (z2 gIx (zVar 1) (zC (.int 0))))) (aCons (eZ (z2 gMul (z2 gIx (zVar 0) (zC (.int 0))) (z2 gIx (zVar 1) (zC (.int 1))))) (aCons (eZ (z2 gMul (z2 gIx (zVar 0) (zC (.int 1))) (z2 gIx (zVar 1) (zC (.int 0))))) (aCons (eZ (z2 gMul (z2 gIx (zVar 0) (zC (.int 1))) (z2 gIx (zVar 1) (zC (.int 1))))) aNil))))) aNil)) (gN 3))
    (sRet (eTup (aCons (eZ (z2 gDiv (z2 gIx (zVar 3) (zC (.int 0))) (zVar 2))) (aCons (eZ (z1 gNeg (z2 gDiv (z1 gNeg (z2 gIx (zVar 3) (zC (.int 3)))) (zVar 2)))) aNil)))))
def f__law_product : List D → CR := callF 3 4 m__law_product
def m__law_less : MS := (sRet (eTup (aCons (eZ (z2 gSub (z2 gIx (zVar 0) (zC (.int 0))) (z2 gIx (zVar 1) (zC (.int 1))))) (aCons (eZ (z2 gSub (z2 gIx (zVar 0) (zC (.int 1))) (z2 gIx (zVar 1) (zC (.int 0))))) aNil))))
def f__law_less : List D → CR := callF 2 2 m__law_less
def m__law_often : MS := (sSeq (sAsg (eZ (zC (.int 1))) (gN 2))
    (sSeq (sFor (iR1 (aCons (eVar 1) aNil)) (gN 3) (sAsg (eZ (z2 gMul (zVar 2) (zVar 0))) (gN 2)))
    (sRet (eMv 2))))
def f__law_often : List D → CR := callF 2 4 m__law_often
def m__law_raised : MS := (sSeq (sAsg (eSorted (aCons (eLst (aCons (eCall f__law_often (aCons (eZ (z2 gIx (zVar 0) (zC (.int 0)))) (aCons (eVar 1) aNil))) (aCons (eCall f__law_often (aCons (eZ (z2 gIx (zVar 0) (zC (.int 1)))) (aCons (eVar 1) aNil))) aNil))) aNil)) (gN 3))
    (sSeq (sIf (tAnd (tZ (z2 gEq (z2 gMod (zVar 1) (zC (.int 2))) (zC (.int 0)))) (tZ (zChain gLt gLt (z2 gIx (zVar 0) (zC (.int 0))) (zC (.int 0)) (z2 gIx (zVar 0) (zC (.int 1)))))) (sSetIx 3 (zC (.int 0)) (eZ (zC (.int 0)))) sNil)
    (sSeq (sAsg (eCall f__law_often (aCons (eVar 2) (aCons (eZ (z2 gSub (zVar 1) (zC (.int 1)))) aNil))) (gN 4))
    (sRet (eTup (aCons (eZ (z2 gDiv (z2 gIx (zVar 3) (zC (.int 0))) (zVar 4))) (aCons (eZ (z1 gNeg (z2 gDiv (z1 gNeg (z2 gIx (zVar 3) (zC (.int 1)))) (zVar 4)))) aNil)))))))
def f__law_raised : List D → CR := callF 3 5 m__law_raised
def m__law_factor : MS := (sSeq (sIf (tZ (z2 gGt (zVar 1) (zC (.int 2)))) (sAsg (eCall f__law_raised (aCons (eVar 0) (aCons (eZ (z2 gSub (zVar 1) (zC (.int 1)))) (aCons (eVar 2) aNil)))) (gN 0)) sNil)
    (sRet (eTup (aCons (eZ (z2 gMul (z2 gIx (zVar 0) (zC (.int 0))) (zVar 1))) (aCons (eZ (z2 gMul (z2 gIx (zVar 0) (zC (.int 1))) (zVar 1))) aNil)))))
def f__law_factor : List D → CR := callF 3 3 m__law_factor
def m__law_slope : MS := (sSeq (sAsg (eZ (z2 gIx (zVar 0) (zC (.int 0)))) (gN 5))
    (sSeq (sIf (tOr (tZ (z2 gEq (zVar 5) (zC (.str "number")))) (tAnd (tZ (z2 gEq (zVar 5) (zC (.str "unknown")))) (tZ (z2 gNe (z2 gIx (zVar 0) (zC (.int 1))) (zVar 3))))) (sRet (eTup (aCons (eZ (zC (.int 0))) (aCons (eZ (zC (.int 0))) aNil)))) sNil)
    (sSeq (sIf (tZ (z2 gEq (zVar 5) (zC (.str "unknown")))) (sRet (eTup (aCons (eVar 4) (aCons (eVar 4) aNil)))) sNil)
    (sSeq (sAsg (eZ (z2 gIx (z2 gIx (zVar 2) (z2 gIx (zVar 0) (zC (.int 1)))) (zVar 3))) (gN 6))
    (sSeq (sIf (tZ (z2 gEq (zVar 5) (zC (.str "power")))) (sRet (eCall f__law_product (aCons (eCall f__law_factor (aCons (eZ (z2 gIx (zVar 1) (z2 gIx (zVar 0) (zC (.int 1))))) (aCons (eZ (z2 gIx (zVar 0) (zC (.int 2)))) (aCons (eVar 4) aNil)))) (aCons (eVar 6) (aCons (eVar 4) aNil))))) sNil)
    (sSeq (sAsg (eZ (z2 gIx (z2 gIx (zVar 2) (z2 gIx (zVar 0) (zC (.int 2)))) (zVar 3))) (gN 7))
    (sSeq (sIf (tZ (z2 gEq (zVar 5) (zC (.str "plus")))) (sRet (eCall f__law_plus (aCons (eVar 6) (aCons (eVar 7) aNil)))) sNil)
    (sSeq (sIf (tZ (z2 gEq (zVar 5) (zC (.str "minus")))) (sRet (eCall f__law_less (aCons (eVar 6) (aCons (eVar 7) aNil)))) sNil)
    (sRet (eCall f__law_plus (aCons (eCall f__law_product (aCons (eZ (z2 gIx (zVar 1) (z2 gIx (zVar 0) (zC (.int 1))))) (aCons (eVar 7) (aCons (eVar 4) aNil)))) (aCons (eCall f__law_product (aCons (eZ (z2 gIx (zVar 1) (z2 gIx (zVar 0) (zC (.int 2))))) (aCons (eVar 6) (aCons (eVar 4) aNil)))) aNil))))))))))))
def f__law_slope : List D → CR := callF 5 8 m__law_slope
def c__law_slopes_1 : ME := (eLc [6] (iR1 (aCons (eVar 2) aNil)) (gN 6) tTrue (eCallZ f__law_slope (zaCons (zVar 5) (zaCons (zVar 1) (zaCons (zVar 4) (zaCons (zVar 6) (zaCons (zVar 3) zaNil)))))))
def w__law_slopes_1 : MS := (sFor (iL (eVar 0)) (gN 5) (sApp 4 c__law_slopes_1))
def m__law_slopes : MS := (sSeq (sAsg (eLst aNil) (gN 4))
    (sSeq w__law_slopes_1
    (sRet (eMv 4))))
def f__law_slopes : List D → CR := callF 4 7 m__law_slopes
def m_kind_of : MS := (sSeq (sIf (tZ (z2 gEq (z2 gIx (zVar 0) (zC (.int 0))) (zC (.str "number")))) (sRet (eMake "Number" ["top", "bottom"] (aCons (eZ (z2 gIx (zVar 0) (zC (.int 1)))) (aCons (eZ (z2 gIx (zVar 0) (zC (.int 2)))) aNil)))) sNil)
    (sSeq (sIf (tZ (z2 gEq (z2 gIx (zVar 0) (zC (.int 0))) (zC (.str "unknown")))) (sRet (eMake "Unknown" ["place"] (aCons (eZ (z2 gIx (zVar 0) (zC (.int 1)))) aNil))) sNil)
    (sSeq (sIf (tZ (z2 gEq (z2 gIx (zVar 0) (zC (.int 0))) (zC (.str "plus")))) (sRet (eMake "Plus" ["one", "other"] (aCons (eZ (z2 gIx (zVar 0) (zC (.int 1)))) (aCons (eZ (z2 gIx (zVar 0) (zC (.int 2)))) aNil)))) sNil)
    (sSeq (sIf (tZ (z2 gEq (z2 gIx (zVar 0) (zC (.int 0))) (zC (.str "minus")))) (sRet (eMake "Minus" ["one", "other"] (aCons (eZ (z2 gIx (zVar 0) (zC (.int 1)))) (aCons (eZ (z2 gIx (zVar 0) (zC (.int 2)))) aNil)))) sNil)
    (sSeq (sIf (tZ (z2 gEq (z2 gIx (zVar 0) (zC (.int 0))) (zC (.str "times")))) (sRet (eMake "Times" ["one", "other"] (aCons (eZ (z2 gIx (zVar 0) (zC (.int 1)))) (aCons (eZ (z2 gIx (zVar 0) (zC (.int 2)))) aNil)))) sNil)
    (sRet (eMake "Power" ["one", "many"] (aCons (eZ (z2 gIx (zVar 0) (zC (.int 1)))) (aCons (eZ (z2 gIx (zVar 0) (zC (.int 2)))) aNil)))))))))
def f_kind_of : List D → CR := callF 1 1 m_kind_of
def m_less : MS := (sRet (eZ (z2 gLt (z2 gMul (z2 gIx (zVar 0) (zC (.int 0))) (z2 gIx (zVar 1) (zC (.int 1)))) (z2 gMul (z2 gIx (zVar 1) (zC (.int 0))) (z2 gIx (zVar 0) (zC (.int 1)))))))
def f_less : List D → CR := callF 2 2 m_less
def m_span_of : MS := (sSeq (sIf (tE (eCall f_less (aCons (eVar 1) (aCons (eVar 0) aNil)))) (sRaise "NoSpan") sNil)
    (sRet (eTup (aCons (eZ (z2 gDiv (z2 gMul (z2 gIx (zVar 0) (zC (.int 0))) (zVar 2)) (z2 gIx (zVar 0) (zC (.int 1))))) (aCons (eZ (z1 gNeg (z2 gDiv (z2 gMul (z1 gNeg (z2 gIx (zVar 1) (zC (.int 0)))) (zVar 2)) (z2 gIx (zVar 1) (zC (.int 1)))))) aNil)))))
def f_span_of : List D → CR := callF 3 3 m_span_of
def m_Number_forth : MS := (sRet (eCall f_span_of (aCons (eTup (aCons (eZ (z1 (gFld "Number" "top") (zVar 0))) (aCons (eZ (z1 (gFld "Number" "bottom") (zVar 0))) aNil))) (aCons (eTup (aCons (eZ (z1 (gFld "Number" "top") (zVar 0))) (aCons (eZ (z1 (gFld "Number" "bottom") (zVar 0))) aNil))) (aCons (eVar 3) aNil)))))
def f_Number_forth : List D → CR := callF 4 4 m_Number_forth
def m_Unknown_forth : MS := (sRet (eZ (z2 gIx (zVar 2) (z1 (gFld "Unknown" "place") (zVar 0)))))
def f_Unknown_forth : List D → CR := callF 4 4 m_Unknown_forth
def m_add_spans : MS := (sRet (eTup (aCons (eZ (z2 gAdd (z2 gIx (zVar 0) (zC (.int 0))) (z2 gIx (zVar 1) (zC (.int 0))))) (aCons (eZ (z2 gAdd (z2 gIx (zVar 0) (zC (.int 1))) (z2 gIx (zVar 1) (zC (.int 1))))) aNil))))
def f_add_spans : List D → CR := callF 2 2 m_add_spans
def m_Plus_forth : MS := (sRet (eCall f_add_spans (aCons (eZ (z2 gIx (zVar 1) (z1 (gFld "Plus" "one") (zVar 0)))) (aCons (eZ (z2 gIx (zVar 1) (z1 (gFld "Plus" "other") (zVar 0)))) aNil))))
def f_Plus_forth : List D → CR := callF 4 4 m_Plus_forth
def m_take_spans : MS := (sRet (eTup (aCons (eZ (z2 gSub (z2 gIx (zVar 0) (zC (.int 0))) (z2 gIx (zVar 1) (zC (.int 1))))) (aCons (eZ (z2 gSub (z2 gIx (zVar 0) (zC (.int 1))) (z2 gIx (zVar 1) (zC (.int 0))))) aNil))))
def f_take_spans : List D → CR := callF 2 2 m_take_spans
def m_Minus_forth : MS := (sRet (eCall f_take_spans (aCons (eZ (z2 gIx (zVar 1) (z1 (gFld "Minus" "one") (zVar 0)))) (aCons (eZ (z2 gIx (zVar 1) (z1 (gFld "Minus" "other") (zVar 0)))) aNil))))
def f_Minus_forth : List D → CR := callF 4 4 m_Minus_forth
def m_mul_spans : MS := (sSeq (sAsg (eLst (aCons (eZ (z2 gMul (z2 gIx (zVar 0) (zC (.int 0))) (z2 gIx (zVar 1) (zC (.int 0))))) (aCons (eZ (z2 gMul (z2 gIx (zVar 0) (zC (.int 0))) (z2 gIx (zVar 1) (zC (.int 1))))) (aCons (eZ (z2 gMul (z2 gIx (zVar 0) (zC (.int 1))) (z2 gIx (zVar 1) (zC (.int 0))))) (aCons (eZ (z2 gMul (z2 gIx (zVar 0) (zC (.int 1))) (z2 gIx (zVar 1) (zC (.int 1))))) aNil))))) (gN 3))
    (sRet (eTup (aCons (eZ (z2 gDiv (zC' gMinL (zaCons (zVar 3) zaNil)) (zVar 2))) (aCons (eZ (z1 gNeg (z2 gDiv (z1 gNeg (zC' gMaxL (zaCons (zVar 3) zaNil))) (zVar 2)))) aNil)))))
def f_mul_spans : List D → CR := callF 3 4 m_mul_spans
def m_Times_forth : MS := (sRet (eCall f_mul_spans (aCons (eZ (z2 gIx (zVar 1) (z1 (gFld "Times" "one") (zVar 0)))) (aCons (eZ (z2 gIx (zVar 1) (z1 (gFld "Times" "other") (zVar 0)))) (aCons (eVar 3) aNil)))))
def f_Times_forth : List D → CR := callF 4 4 m_Times_forth
def m_multiplied : MS := (sSeq (sAsg (eZ (zC (.int 1))) (gN 2))
    (sSeq (sFor (iR1 (aCons (eVar 1) aNil)) (gN 3) (sAsg (eZ (z2 gMul (zVar 2) (zVar 0))) (gN 2)))
    (sRet (eMv 2))))
def f_multiplied : List D → CR := callF 2 4 m_multiplied
def m_raise_span : MS := (sSeq (sAsg (eCall f_multiplied (aCons (eVar 2) (aCons (eZ (z2 gSub (zVar 1) (zC (.int 1)))) aNil))) (gN 3))
    (sSeq (sAsg (eCall f_multiplied (aCons (eZ (z2 gIx (zVar 0) (zC (.int 0)))) (aCons (eVar 1) aNil))) (gN 4))
    (sSeq (sAsg (eCall f_multiplied (aCons (eZ (z2 gIx (zVar 0) (zC (.int 1)))) (aCons (eVar 1) aNil))) (gN 5))
    (sSeq (sAsg (eZ (zC' gMin2 (zaCons (zVar 4) (zaCons (zVar 5) zaNil)))) (gN 6))
    (sSeq (sIf (tAnd (tZ (z2 gEq (z2 gMod (zVar 1) (zC (.int 2))) (zC (.int 0)))) (tZ (zChain gLt gLt (z2 gIx (zVar 0) (zC (.int 0))) (zC (.int 0)) (z2 gIx (zVar 0) (zC (.int 1)))))) (sAsg (eZ (zC (.int 0))) (gN 6)) sNil)
    (sRet (eTup (aCons (eZ (z2 gDiv (zVar 6) (zVar 3))) (aCons (eZ (z1 gNeg (z2 gDiv (z1 gNeg (zC' gMax2 (zaCons (zVar 4) (zaCons (zVar 5) zaNil)))) (zVar 3)))) aNil)))))))))
def f_raise_span : List D → CR := callF 3 7 m_raise_span
def m_Power_forth : MS := (sRet (eCall f_raise_span (aCons (eZ (z2 gIx (zVar 1) (z1 (gFld "Power" "one") (zVar 0)))) (aCons (eZ (z1 (gFld "Power" "many") (zVar 0))) (aCons (eVar 3) aNil)))))
def f_Power_forth : List D → CR := callF 4 4 m_Power_forth
def al_forth : List (Str × (List D → CR)) := [("Number", f_Number_forth), ("Unknown", f_Unknown_forth), ("Plus", f_Plus_forth), ("Minus", f_Minus_forth), ("Times", f_Times_forth), ("Power", f_Power_forth)]
theorem al_forth_Number : List.lookup ("Number" : Str) al_forth = some f_Number_forth := rfl
theorem nm_Number_forth : (["top", "bottom"] : List Str).contains "forth" = false := by decide
theorem al_forth_Unknown : List.lookup ("Unknown" : Str) al_forth = some f_Unknown_forth := rfl
theorem nm_Unknown_forth : (["place"] : List Str).contains "forth" = false := by decide
theorem al_forth_Plus : List.lookup ("Plus" : Str) al_forth = some f_Plus_forth := rfl
theorem nm_Plus_forth : (["one", "other"] : List Str).contains "forth" = false := by decide
theorem al_forth_Minus : List.lookup ("Minus" : Str) al_forth = some f_Minus_forth := rfl
theorem nm_Minus_forth : (["one", "other"] : List Str).contains "forth" = false := by decide
theorem al_forth_Times : List.lookup ("Times" : Str) al_forth = some f_Times_forth := rfl
theorem nm_Times_forth : (["one", "other"] : List Str).contains "forth" = false := by decide
theorem al_forth_Power : List.lookup ("Power" : Str) al_forth = some f_Power_forth := rfl
theorem nm_Power_forth : (["one", "many"] : List Str).contains "forth" = false := by decide
def w_worths_1 : MS := (sFor (iL (eVar 0)) (gN 4) (sApp 3 (eMethZ al_forth "forth" (eCall f_kind_of (aCons (eVar 4) aNil)) (zaCons (zVar 3) (zaCons (zVar 1) (zaCons (zVar 2) zaNil))))))
def m_worths : MS := (sSeq (sAsg (eLst aNil) (gN 3))
    (sSeq w_worths_1
    (sRet (eMv 3))))
def f_worths : List D → CR := callF 3 5 m_worths
def c_flat_1 : ME := (eLc [1] (iR1 (aCons (eVar 0) aNil)) (gN 1) tTrue (eTup (aCons (eZ (zC (.int 0))) (aCons (eZ (zC (.int 0))) aNil))))
def m_flat : MS := (sRet c_flat_1)
def f_flat : List D → CR := callF 1 2 m_flat
def m_scale_span : MS := (sRet (eTup (aCons (eZ (zC' gMin2 (zaCons (z2 gMul (z2 gIx (zVar 0) (zC (.int 0))) (zVar 1)) (zaCons (z2 gMul (z2 gIx (zVar 0) (zC (.int 1))) (zVar 1)) zaNil)))) (aCons (eZ (zC' gMax2 (zaCons (z2 gMul (z2 gIx (zVar 0) (zC (.int 0))) (zVar 1)) (zaCons (z2 gMul (z2 gIx (zVar 0) (zC (.int 1))) (zVar 1)) zaNil)))) aNil))))
def f_scale_span : List D → CR := callF 2 2 m_scale_span
def m_rise : MS := (sSeq (sIf (tZ (z2 gEq (zVar 1) (zC (.int 2)))) (sRet (eCall f_scale_span (aCons (eVar 0) (aCons (eZ (zC (.int 2))) aNil)))) sNil)
    (sRet (eCall f_scale_span (aCons (eCall f_raise_span (aCons (eVar 0) (aCons (eZ (z2 gSub (zVar 1) (zC (.int 1)))) (aCons (eVar 2) aNil)))) (aCons (eVar 1) aNil)))))
def f_rise : List D → CR := callF 3 3 m_rise
def c_slope_of_1 : ME := (eLc [9] (iL (eVar 7)) (gN 9) tTrue (eCall f_mul_spans (aCons (eVar 8) (aCons (eVar 9) (aCons (eVar 4) aNil)))))
def c_slope_of_2 : ME := (eLc [11] (iR1 (aCons (eVar 3) aNil)) (gN 11) tTrue (eCall f_add_spans (aCons (eZ (z2 gIx (zVar 7) (zVar 11))) (aCons (eZ (z2 gIx (zVar 10) (zVar 11))) aNil))))
def c_slope_of_3 : ME := (eLc [11] (iR1 (aCons (eVar 3) aNil)) (gN 11) tTrue (eCall f_take_spans (aCons (eZ (z2 gIx (zVar 7) (zVar 11))) (aCons (eZ (z2 gIx (zVar 10) (zVar 11))) aNil))))
def w_slope_of_1 : MS := (sFor (iR1 (aCons (eVar 3) aNil)) (gN 11) (sSeq (sAsg (eCall f_mul_spans (aCons (eZ (z2 gIx (zVar 1) (z2 gIx (zVar 0) (zC (.int 1))))) (aCons (eZ (z2 gIx (zVar 10) (zVar 11))) (aCons (eVar 4) aNil)))) (gN 12))
    (sApp 6 (eCall f_add_spans (aCons (eVar 12) (aCons (eCall f_mul_spans (aCons (eZ (z2 gIx (zVar 1) (z2 gIx (zVar 0) (zC (.int 2))))) (aCons (eZ (z2 gIx (zVar 7) (zVar 11))) (aCons (eVar 4) aNil)))) aNil))))))
def m_slope_of : MS := (sSeq (sAsg (eZ (z2 gIx (zVar 0) (zC (.int 0)))) (gN 5))
    (sSeq (sIf (tZ (z2 gEq (zVar 5) (zC (.str "number")))) (sRet (eCall f_flat (aCons (eVar 3) aNil))) sNil)
    (sSeq (sIf (tZ (z2 gEq (zVar 5) (zC (.str "unknown")))) (sSeq (sAsg (eCall f_flat (aCons (eVar 3) aNil)) (gN 6))
    (sSeq (sSetIx 6 (z2 gIx (zVar 0) (zC (.int 1))) (eTup (aCons (eVar 4) (aCons (eVar 4) aNil))))
    (sRet (eMv 6)))) sNil)
    (sSeq (sAsg (eZ (z2 gIx (zVar 2) (z2 gIx (zVar 0) (zC (.int 1))))) (gN 7))
    (sSeq (sIf (tZ (z2 gEq (zVar 5) (zC (.str "power")))) (sSeq (sAsg (eCall f_rise (aCons (eZ (z2 gIx (zVar 1) (z2 gIx (zVar 0) (zC (.int 1))))) (aCons (eZ (z2 gIx (zVar 0) (zC (.int 2)))) (aCons (eVar 4) aNil)))) (gN 8))
    (sRet c_slope_of_1)) sNil)
    (sSeq (sAsg (eZ (z2 gIx (zVar 2) (z2 gIx (zVar 0) (zC (.int 2))))) (gN 10))
    (sSeq (sIf (tZ (z2 gEq (zVar 5) (zC (.str "plus")))) (sRet c_slope_of_2) sNil)
    (sSeq (sIf (tZ (z2 gEq (zVar 5) (zC (.str "minus")))) (sRet c_slope_of_3) sNil)
    (sSeq (sAsg (eLst aNil) (gN 6))
    (sSeq w_slope_of_1
    (sRet (eMv 6))))))))))))
def f_slope_of : List D → CR := callF 5 13 m_slope_of
def w_slopes_1 : MS := (sFor (iL (eVar 0)) (gN 5) (sApp 4 (eCallZ f_slope_of (zaCons (zVar 5) (zaCons (zVar 3) (zaCons (zVar 4) (zaCons (zC' gLen (zaCons (zVar 1) zaNil)) (zaCons (zVar 2) zaNil))))))))
def m_slopes : MS := (sSeq (sAsg (eCall f_worths (aCons (eVar 0) (aCons (eVar 1) (aCons (eVar 2) aNil)))) (gN 3))
    (sSeq (sAsg (eLst aNil) (gN 4))
    (sSeq w_slopes_1
    (sRet (eMv 4)))))
def f_slopes : List D → CR := callF 3 6 m_slopes
def m__law_whole : MS := (sRet (eAnd (eZ (zC' gIsi (zaCons (zVar 0) (zaCons (zC (.ty "int")) zaNil)))) (eNot (eZ (zC' gIsi (zaCons (zVar 0) (zaCons (zC (.ty "bool")) zaNil)))))))
def f__law_whole : List D → CR := callF 1 1 m__law_whole
def m__law_span : MS := (sSeq (sIf (tOr (tNot (tZ (zC' gIsi (zaCons (zVar 0) (zaCons (zC (.ty "tuple")) zaNil))))) (tZ (z2 gNe (zC' gLen (zaCons (zVar 0) zaNil)) (zC (.int 2))))) (sRet (eZ (zC (.bl false)))) sNil)
    (sRet (eAnd (eCall f__law_whole (aCons (eZ (z2 gIx (zVar 0) (zC (.int 0)))) aNil)) (eAnd (eCall f__law_whole (aCons (eZ (z2 gIx (zVar 0) (zC (.int 1)))) aNil)) (eZ (z2 gLe (z2 gIx (zVar 0) (zC (.int 0))) (z2 gIx (zVar 0) (zC (.int 1)))))))))
def f__law_span : List D → CR := callF 1 1 m__law_span
def w__law_spans_1 : MS := (sFor (iL (eVar 0)) (gN 2) (sIf (tNot (tE (eCall f__law_span (aCons (eVar 2) aNil)))) (sRet (eZ (zC (.bl false)))) sNil))
def m__law_spans : MS := (sSeq (sIf (tOr (tNot (tZ (zC' gIsi (zaCons (zVar 0) (zaCons (zC (.ty "list")) zaNil))))) (tZ (z2 gNe (zC' gLen (zaCons (zVar 0) zaNil)) (zVar 1)))) (sRet (eZ (zC (.bl false)))) sNil)
    (sSeq w__law_spans_1
    (sRet (eZ (zC (.bl true))))))
def f__law_spans : List D → CR := callF 2 3 m__law_spans
def w__law_lists_1 : MS := (sFor (iR1 (aCons (eZ (zC' gLen (zaCons (zVar 1) zaNil))) aNil)) (gN 2) (sIf (tOr (tNot (tE (eCall f__law_spans (aCons (eZ (z2 gIx (zVar 0) (zVar 2))) (aCons (eZ (zC' gLen (zaCons (z2 gIx (zVar 1) (zVar 2)) zaNil))) aNil))))) (tZ (z2 gNe (z2 gIx (zVar 0) (zVar 2)) (z2 gIx (zVar 1) (zVar 2))))) (sRet (eZ (zC (.bl false)))) sNil))
def m__law_lists : MS := (sSeq (sIf (tOr (tNot (tZ (zC' gIsi (zaCons (zVar 0) (zaCons (zC (.ty "list")) zaNil))))) (tZ (z2 gNe (zC' gLen (zaCons (zVar 0) zaNil)) (zC' gLen (zaCons (zVar 1) zaNil))))) (sRet (eZ (zC (.bl false)))) sNil)
    (sSeq w__law_lists_1
    (sRet (eZ (zC (.bl true))))))
def f__law_lists : List D → CR := callF 2 3 m__law_lists
def m__law_cell : MS := (sSeq (sIf (tZ (z2 gLt (zVar 1) (zC' gLen (zaCons (zVar 0) zaNil)))) (sRet (eZ (z2 gIx (zVar 0) (zVar 1)))) sNil)
    (sRet (eZ (zC (.int 0)))))
def f__law_cell : List D → CR := callF 2 2 m__law_cell
def m__law_side : MS := (sSeq (sAsg (eZ (z2 gSub (z2 gMod (z2 gDiv (zVar 0) (zC (.int 4))) (zC (.int 401))) (zC (.int 200)))) (gN 2))
    (sSeq (sIf (tZ (z2 gEq (z2 gMod (zVar 0) (zC (.int 4))) (zC (.int 1)))) (sAsg (eZ (z2 gSub (z2 gMod (z2 gDiv (zVar 0) (zC (.int 4))) (zC (.int 1000000000000000))) (zC (.int 500000000000000)))) (gN 2)) sNil)
    (sSeq (sAsg (eZ (z2 gMod (z2 gDiv (zVar 1) (zC (.int 4))) (zC (.int 500)))) (gN 3))
    (sSeq (sIf (tZ (z2 gEq (z2 gMod (zVar 1) (zC (.int 4))) (zC (.int 1)))) (sAsg (eZ (z2 gMod (z2 gDiv (zVar 1) (zC (.int 4))) (zC (.int 100000000000000)))) (gN 3)) sNil)
    (sSeq (sIf (tZ (z2 gEq (z2 gMod (zVar 1) (zC (.int 4))) (zC (.int 2)))) (sAsg (eZ (z2 gMod (z2 gDiv (zVar 1) (zC (.int 4))) (zC (.int 3)))) (gN 3)) sNil)
    (sRet (eTup (aCons (eVar 2) (aCons (eZ (z2 gAdd (zVar 2) (zVar 3))) aNil)))))))))
def f__law_side : List D → CR := callF 2 4 m__law_side
def fuel__law_lowest1 : Bn.Env → Nat := fun τ => match τ.getD 3 none with | some (.int x) => x.natAbs + 1 | _ => 0
def m__law_lowest : MS := (sSeq (sAsg (eZ (zC' gAbs (zaCons (zVar 0) zaNil))) (gN 2))
    (sSeq (sAsg (eVar 1) (gN 3))
    (sSeq (sWhile fuel__law_lowest1 (tZ (z2 gNe (zVar 3) (zC (.int 0)))) (sPar 2 3 (aCons (eVar 3) (aCons (eZ (z2 gMod (zVar 2) (zVar 3))) aNil))))
    (sRet (eTup (aCons (eZ (z2 gDiv (zVar 0) (zVar 2))) (aCons (eZ (z2 gDiv (zVar 1) (zVar 2))) aNil)))))))
def f__law_lowest : List D → CR := callF 2 4 m__law_lowest
def u__law_number_2 : MS := (sRet (eCall f__law_lowest (aCons (eZ (z2 gSub (z2 gMod (z2 gDiv (zVar 0) (zC (.int 3))) (zC (.int 41))) (zC (.int 20)))) (aCons (eZ (z2 gAdd (zC (.int 1)) (z2 gMod (z2 gDiv (zVar 0) (zC (.int 123))) (zC (.int 9))))) aNil))))
def u__law_number_1 : MS := (sSeq (sIf (tZ (z2 gEq (z2 gMod (zVar 0) (zC (.int 3))) (zC (.int 1)))) (sRet (eTup (aCons (eZ (z2 gSub (z2 gMod (z2 gDiv (zVar 0) (zC (.int 3))) (zC (.int 9))) (zC (.int 4)))) (aCons (eZ (zC (.int 1))) aNil)))) sNil) u__law_number_2)
def m__law_number : MS := (sSeq (sIf (tZ (z2 gEq (z2 gMod (zVar 0) (zC (.int 3))) (zC (.int 0)))) (sRet (eCall f__law_lowest (aCons (eZ (z2 gSub (z2 gMod (z2 gDiv (zVar 0) (zC (.int 3))) (zC (.int 1999999999))) (zC (.int 999999999)))) (aCons (eZ (z2 gAdd (zC (.int 1)) (z2 gMod (z2 gMulS (zVar 0) (zC (.int 48271))) (zC (.int 999999937))))) aNil)))) sNil) u__law_number_1)
def f__law_number : List D → CR := callF 1 1 m__law_number
def u__law_put_3 : MS := (sRet (eZ (z2 gSub (zC' gLen (zaCons (zVar 0) zaNil)) (zC (.int 1)))))
def u__law_put_2 : MS := (sSeq (sApp 1 (eVar 3)) u__law_put_3)
def u__law_put_1 : MS := (sSeq (sApp 0 (eVar 2)) u__law_put_2)
def m__law_put : MS := (sSeq (sIf (tZ (z2 (gInD false) (zVar 2) (zVar 0))) (sRet (eZ (z2 gIndex (zVar 0) (zVar 2)))) sNil) u__law_put_1)
def f__law_put : List D → CR2 := callFI 4 4 2 m__law_put
def u__law_grow_3 : MS := (sIf (tZ (z2 gEq (z2 gMod (zVar 2) (zC (.int 6))) (zC (.int 4)))) (sSeq (sAsg (eCallZ f__law_number (zaCons (z2 gDiv (zVar 2) (zC (.int 1536))) zaNil)) (gN 7))
    (sDrop (eCallI f__law_put [0, 1] (aCons (eTup (aCons (eZ (zC (.str "number"))) (aCons (eZ (z2 gIx (zVar 7) (zC (.int 0)))) (aCons (eZ (z2 gIx (zVar 7) (zC (.int 1)))) aNil)))) (aCons (eZ (zC (.int 1))) aNil))))) (sIf (tZ (z2 gEq (z2 gMod (zVar 2) (zC (.int 6))) (zC (.int 3)))) (sSeq (sAsg (eZ (z2 gAdd (zC (.int 2)) (z2 gMod (z2 gDiv (zVar 2) (zC (.int 1536))) (zC (.int 5))))) (gN 8))
    (sIf (tZ (z2 gLe (z2 gMul (zVar 8) (z2 gIx (zVar 1) (zVar 4))) (zVar 3))) (sDrop (eCallI f__law_put [0, 1] (aCons (eTup (aCons (eZ (zC (.str "power"))) (aCons (eVar 4) (aCons (eVar 8) aNil)))) (aCons (eZ (z2 gMul (zVar 8) (z2 gIx (zVar 1) (zVar 4)))) aNil)))) sNil)) (sIf (tZ (z2 gLe (zVar 6) (zVar 3))) (sSeq (sAsg (e2 gIx (eLst (aCons (eZ (zC (.str "plus"))) (aCons (eZ (zC (.str "minus"))) (aCons (eZ (zC (.str "times"))) aNil)))) (eZ (z2 gMod (z2 gMod (zVar 2) (zC (.int 6))) (zC (.int 3))))) (gN 9))
    (sDrop (eCallI f__law_put [0, 1] (aCons (eTup (aCons (eVar 9) (aCons (eVar 4) (aCons (eVar 5) aNil)))) (aCons (eVar 6) aNil))))) sNil)))
def u__law_grow_2 : MS := (sSeq (sAsg (eZ (z2 gAdd (z2 gIx (zVar 1) (zVar 4)) (z2 gIx (zVar 1) (zVar 5)))) (gN 6)) u__law_grow_3)
def u__law_grow_1 : MS := (sSeq (sAsg (eZ (z2 gMod (z2 gMod (z2 gDiv (zVar 2) (zC (.int 96))) (zC (.int 16))) (zC' gLen (zaCons (zVar 0) zaNil)))) (gN 5)) u__law_grow_2)
def m__law_grow : MS := (sSeq (sAsg (eZ (z2 gMod (z2 gMod (z2 gDiv (zVar 2) (zC (.int 6))) (zC (.int 16))) (zC' gLen (zaCons (zVar 0) zaNil)))) (gN 4)) u__law_grow_1)
def f__law_grow : List D → CR2 := callFI 4 10 2 m__law_grow
def m__law_forth : MS := (sSeq (sAsg (eZ (z2 gIx (zVar 0) (zC (.int 0)))) (gN 4))
    (sSeq (sIf (tZ (z2 gEq (zVar 4) (zC (.str "number")))) (sRet (eTup (aCons (eZ (z2 gDiv (z2 gMul (z2 gIx (zVar 0) (zC (.int 1))) (zVar 3)) (z2 gIx (zVar 0) (zC (.int 2))))) (aCons (eZ (z1 gNeg (z2 gDiv (z2 gMul (z1 gNeg (z2 gIx (zVar 0) (zC (.int 1)))) (zVar 3)) (z2 gIx (zVar 0) (zC (.int 2)))))) aNil)))) sNil)
    (sSeq (sIf (tZ (z2 gEq (zVar 4) (zC (.str "unknown")))) (sRet (eZ (z2 gIx (zVar 2) (z2 gIx (zVar 0) (zC (.int 1)))))) sNil)
    (sSeq (sAsg (eZ (z2 gIx (zVar 1) (z2 gIx (zVar 0) (zC (.int 1))))) (gN 5))
    (sSeq (sIf (tZ (z2 gEq (zVar 4) (zC (.str "power")))) (sRet (eCall f__law_raised (aCons (eVar 5) (aCons (eZ (z2 gIx (zVar 0) (zC (.int 2)))) (aCons (eVar 3) aNil))))) sNil)
    (sSeq (sAsg (eZ (z2 gIx (zVar 1) (z2 gIx (zVar 0) (zC (.int 2))))) (gN 6))
    (sSeq (sIf (tZ (z2 gEq (zVar 4) (zC (.str "plus")))) (sRet (eCall f__law_plus (aCons (eVar 5) (aCons (eVar 6) aNil)))) sNil)
    (sSeq (sIf (tZ (z2 gEq (zVar 4) (zC (.str "minus")))) (sRet (eCall f__law_less (aCons (eVar 5) (aCons (eVar 6) aNil)))) sNil)
    (sRet (eCall f__law_product (aCons (eVar 5) (aCons (eVar 6) (aCons (eVar 3) aNil)))))))))))))
def f__law_forth : List D → CR := callF 4 7 m__law_forth
def w__law_worths_1 : MS := (sFor (iL (eVar 0)) (gN 4) (sApp 3 (eCallZ f__law_forth (zaCons (zVar 4) (zaCons (zVar 3) (zaCons (zVar 1) (zaCons (zVar 2) zaNil)))))))
def m__law_worths : MS := (sSeq (sAsg (eLst aNil) (gN 3))
    (sSeq w__law_worths_1
    (sRet (eMv 3))))
def f__law_worths : List D → CR := callF 3 5 m__law_worths
def l_law_1 : MS := (sDrop (eCallI f__law_grow [5, 6] (aCons (eVar 8) (aCons (eZ (zC (.int 16))) aNil))))
def c_law_1 : ME := (eLc [4] (iR1 (aCons (eVar 1) aNil)) (gN 4) tTrue (eCall f__law_side (aCons (eCall f__law_cell (aCons (eVar 0) (aCons (eZ (z2 gAdd (zC (.int 3)) (z2 gMul (zC (.int 2)) (zVar 4)))) aNil))) (aCons (eCall f__law_cell (aCons (eVar 0) (aCons (eZ (z2 gAdd (zC (.int 4)) (z2 gMul (zC (.int 2)) (zVar 4)))) aNil))) aNil))))
def c_law_2 : ME := (eLcB [7] 5 (gN 7) tTrue (eZ (zC (.int 1))))
def w_law_1 : MS := (sFor (iL (eSlice cutLd (eVar 0) (pSome (eZ (zC (.int 11)))) (pSome (eZ (zC (.int 27)))))) (gN 8) l_law_1)
def u_law_13 : MS := (sRet (eCall f__law_lists (aCons (eCall f_slopes (aCons (eVar 10) (aCons (eVar 11) (aCons (eVar 2) aNil)))) (aCons (eVar 9) aNil))))
def u_law_12 : MS := (sSeq (sClear 12) u_law_13)
def u_law_11 : MS := (sSeq (sClearEach 12 13) u_law_12)
def u_law_10 : MS := (sSeq (sIf (tOr (tNot (tE (eCallZ f__law_lists (zaCons (zVar 12) (zaCons (zVar 9) zaNil))))) (tOr (tZ (z2 gNe (zVar 10) (zVar 5))) (tZ (z2 gNe (zVar 11) (zVar 3))))) (sRet (eZ (zC (.bl false)))) sNil) u_law_11)
def u_law_9 : MS := (sSeq (sAsg (eCall f_slopes (aCons (eVar 10) (aCons (eVar 11) (aCons (eVar 2) aNil)))) (gN 12)) u_law_10)
def u_law_8 : MS := (sSeq (sAsg (eLstOf (aCons (eVar 3) aNil)) (gN 11)) u_law_9)
def u_law_7 : MS := (sSeq (sAsg (eLstOf (aCons (eVar 5) aNil)) (gN 10)) u_law_8)
def u_law_6 : MS := (sSeq (sAsg (eCall f__law_slopes (aCons (eVar 5) (aCons (eCall f__law_worths (aCons (eVar 5) (aCons (eVar 3) (aCons (eVar 2) aNil)))) (aCons (eVar 1) (aCons (eVar 2) aNil))))) (gN 9)) u_law_7)
def u_law_5 : MS := (sSeq w_law_1 u_law_6)
def u_law_4 : MS := (sSeq (sAsg c_law_2 (gN 6)) u_law_5)
def u_law_3 : MS := (sSeq (sAsg (eCall f__law_first (aCons (eCall f__law_cell (aCons (eVar 0) (aCons (eZ (zC (.int 2))) aNil))) (aCons (eVar 1) aNil))) (gN 5)) u_law_4)
def u_law_2 : MS := (sSeq (sAsg c_law_1 (gN 3)) u_law_3)
def u_law_1 : MS := (sSeq (sAsg (eCall f__law_grid (aCons (eCall f__law_cell (aCons (eVar 0) (aCons (eZ (zC (.int 1))) aNil))) aNil)) (gN 2)) u_law_2)
def m_law : MS := (sSeq (sAsg (e2 gAdd (eZ (zC (.int 1))) (e2 gMod (eCall f__law_cell (aCons (eVar 0) (aCons (eZ (zC (.int 0))) aNil))) (eZ (zC (.int 4))))) (gN 1)) u_law_1)
def f_law : List D → CR := callF 1 14 m_law
end Lw

namespace Lw
open Bn
theorem cell_ok (ns : List Int) (k : Nat) : f__law_cell [.cst (ns.map D.int), .int k] = .ok (.int (ns.getD k 0)) := by
  simp only [f__law_cell, m__law_cell, x_seq, x_seq1, x_seq2, x_seq3, x_seq4, x_seq5, x_seq6, x_nil, x_if, x_if1, x_if2, x_if3, x_ret, x_ret1, x_ret2, x_ret3, x_retN, x_asg, x_asg1, x_asg2, x_asg3, x_asg4, x_asg5, x_gN, x_drop, x_drop1, x_drop2, x_bk, x_ct, x_raise, x_tZ, x_tZ1, x_tZ2, x_tE, x_tE1, x_tE2, x_tE3, x_tAnd, x_tAnd1, x_tAnd2, x_tAnd3, x_tOr, x_tOr1, x_tOr2, x_tOr3, x_tNot, x_tNot1, x_tNot2, x_tNot3, x_tTrue, x_z2, x_z21, x_z1, x_z11, x_zC, x_zC1, x_za, x_za1, x_za0, x_zV, x_zK, x_ch, x_ch1, x_ch2, x_eZ, x_eZ1, x_eZ2, x_eV, x_eV1, x_eM, x_eM1, x_b1, x_b2, x_b3, x_s1, x_s2, x_s3, x_oO, x_oO2, x_e2, x_e1, x_eC, x_aN, x_aC, x_tup, x_lst, x_call, x_oC1, x_oC2, x_call0, x_call01, x_eAnd, x_eAnd1, x_eOr, x_eOr1, x_eNot, x_eNot1, x_eIf, x_eIf1, x_fz_int, x_fr_int, x_fz_bl, x_fr_bl, x_fz_str, x_fr_str, x_fz_ty, x_fr_ty, x_fz_tup, x_fr_tup, x_fz_cst, x_fr_cst, x_fz_lst_false, x_fr_lst_false, x_fz_non, x_fr_non, x_fz_lt, x_fr_lt, x_fL0, x_fL1, x_cF, x_cR1, x_cR2, x_cR3, x_iL, x_iL1, x_iT, x_iT1, x_iS, x_iS1, x_iR1, x_iR11, x_iR2, x_iR21, x_iE, x_iE1, x_iV, x_iV1, x_iZ, x_iZ1, x_for, x_fo0, x_fo1, x_fo2, x_fo3, x_fo4, x_fo5, x_fo6, x_fo7, x_gT, x_gC, x_gC0, x_try, x_try1, x_try2, x_try3, x_try4, x_try5, x_nx1, x_nx2, x_try6, x_try7, x_nx3, x_nx4, x_app, x_app1, x_app2, x_lc, x_lcE, x_lc0, x_lc1, x_lcG, x_w0, x_w1, vMinL4, vMaxL4, vAll3, vAny3, vAll4, vAny4, x_wh1, x_wh2, x_wh0, x_abs, vI_ii, vI_ib, vI_it, vI_il, vI_is, vI_bb, vI_bi, vI_tt, vI_tl, vI_ti, vI_ll, vI_lt, vI_ss, vEqB, vNeB, x_ta, x_ta1, x_ta2, x_ta3, x_ta4, x_ta5, x_is, nc_0, nc_1, nc_2, nc_3, nc_4, nc_5, nc_6, nc_7, nc_8, nc_9, nc_10, nc_11, vMax2, vMin2, vIsN0, vIsN1, vNotN0, vNotN1, vIsN2, vNotN2, x_lo, x_lo1, x_lo2, vAll2, vAny2, x_sl, x_sl1, x_sl2, x_pn, x_ps, x_ps1, x_cutL, x_cutC, vEqS, vNeS, x_fz_obj, x_fr_obj, x_make, x_meth, x_meth2, x_meth3, x_isO, x_isO1, x_cat, x_cat1, x_methZ, x_methZ2, x_methZ3, x_callZ, x_callZ1, x_lend1, x_lend2, x_cl_int, x_cl_bl, x_cl_str, x_cl_non, x_cl_tup, x_cl0, x_cl1, x_cl_lst, x_setIx, x_setIx1, x_setIx2, x_callI, x_callI1, x_callI2, x_callI3, x_take0, x_take1, x_take2, x_put0, x_put1, x_cFI, x_cRI1, x_cRI2, x_outR, x_outR1, x_out1, x_out2, x_par, x_par1, x_sort, x_sort1, x_sort2, x_io2, x_io4, vIsB, x_pop, x_lr, x_lr1, x_clr, x_clr1, x_clrE, x_clrE1, x_pop1, x_pop2, x_ins, x_ins1, x_ins2, List.all_cons, List.all_nil, Option.isSome_some, Option.map_some, List.getD_cons_zero, List.getD_cons_succ, List.set_cons_zero, List.set_cons_succ, List.map_cons, List.map_nil, List.replicate_zero, List.replicate_succ, List.length_cons, List.length_nil, List.cons_append, List.nil_append, Option.bind_some, if_true, if_false, Bool.false_eq_true, Nat.reduceSub, Nat.reduceAdd, Nat.reduceLeDiff, Nat.reduceLT, vAdd, vSub, vLt, vLe, vGt, vGe, vNeg, vEq, vNe, vEq2, vNe2, vMod, vDiv, vMul, vPow, Int.reduceToNat, vIx0, vIx1, vLenT, vLenC, vLenL, reduceIte, decide_true, decide_false, Bool.not_true, Bool.not_false, beq_self_eq_true, Bool.and_true, Bool.true_and, Bool.and_self, Bool.and_false, Bool.false_and]
  by_cases h : k < ns.length
  · simp [h, vIxC, x_seq, x_seq1, x_seq2, x_seq3, x_seq4, x_seq5, x_seq6, x_nil, x_if, x_if1, x_if2, x_if3, x_ret, x_ret1, x_ret2, x_ret3, x_retN, x_asg, x_asg1, x_asg2, x_asg3, x_asg4, x_asg5, x_gN, x_drop, x_drop1, x_drop2, x_bk, x_ct, x_raise, x_tZ, x_tZ1, x_tZ2, x_tE, x_tE1, x_tE2, x_tE3, x_tAnd, x_tAnd1, x_tAnd2, x_tAnd3, x_tOr, x_tOr1, x_tOr2, x_tOr3, x_tNot, x_tNot1, x_tNot2, x_tNot3, x_tTrue, x_z2, x_z21, x_z1, x_z11, x_zC, x_zC1, x_za, x_za1, x_za0, x_zV, x_zK, x_ch, x_ch1, x_ch2, x_eZ, x_eZ1, x_eZ2, x_eV, x_eV1, x_eM, x_eM1, x_b1, x_b2, x_b3, x_s1, x_s2, x_s3, x_oO, x_oO2, x_e2, x_e1, x_eC, x_aN, x_aC, x_tup, x_lst, x_call, x_oC1, x_oC2, x_call0, x_call01, x_eAnd, x_eAnd1, x_eOr, x_eOr1, x_eNot, x_eNot1, x_eIf, x_eIf1, x_fz_int, x_fr_int, x_fz_bl, x_fr_bl, x_fz_str, x_fr_str, x_fz_ty, x_fr_ty, x_fz_tup, x_fr_tup, x_fz_cst, x_fr_cst, x_fz_lst_false, x_fr_lst_false, x_fz_non, x_fr_non, x_fz_lt, x_fr_lt, x_fL0, x_fL1, x_cF, x_cR1, x_cR2, x_cR3, x_iL, x_iL1, x_iT, x_iT1, x_iS, x_iS1, x_iR1, x_iR11, x_iR2, x_iR21, x_iE, x_iE1, x_iV, x_iV1, x_iZ, x_iZ1, x_for, x_fo0, x_fo1, x_fo2, x_fo3, x_fo4, x_fo5, x_fo6, x_fo7, x_gT, x_gC, x_gC0, x_try, x_try1, x_try2, x_try3, x_try4, x_try5, x_nx1, x_nx2, x_try6, x_try7, x_nx3, x_nx4, x_app, x_app1, x_app2, x_lc, x_lcE, x_lc0, x_lc1, x_lcG, x_w0, x_w1, vMinL4, vMaxL4, vAll3, vAny3, vAll4, vAny4, x_wh1, x_wh2, x_wh0, x_abs, vI_ii, vI_ib, vI_it, vI_il, vI_is, vI_bb, vI_bi, vI_tt, vI_tl, vI_ti, vI_ll, vI_lt, vI_ss, vEqB, vNeB, x_ta, x_ta1, x_ta2, x_ta3, x_ta4, x_ta5, x_is, nc_0, nc_1, nc_2, nc_3, nc_4, nc_5, nc_6, nc_7, nc_8, nc_9, nc_10, nc_11, vMax2, vMin2, vIsN0, vIsN1, vNotN0, vNotN1, vIsN2, vNotN2, x_lo, x_lo1, x_lo2, vAll2, vAny2, x_sl, x_sl1, x_sl2, x_pn, x_ps, x_ps1, x_cutL, x_cutC, vEqS, vNeS, x_fz_obj, x_fr_obj, x_make, x_meth, x_meth2, x_meth3, x_isO, x_isO1, x_cat, x_cat1, x_methZ, x_methZ2, x_methZ3, x_callZ, x_callZ1, x_lend1, x_lend2, x_cl_int, x_cl_bl, x_cl_str, x_cl_non, x_cl_tup, x_cl0, x_cl1, x_cl_lst, x_setIx, x_setIx1, x_setIx2, x_callI, x_callI1, x_callI2, x_callI3, x_take0, x_take1, x_take2, x_put0, x_put1, x_cFI, x_cRI1, x_cRI2, x_outR, x_outR1, x_out1, x_out2, x_par, x_par1, x_sort, x_sort1, x_sort2, x_io2, x_io4, vIsB, x_pop, x_lr, x_lr1, x_clr, x_clr1, x_clrE, x_clrE1, x_pop1, x_pop2, x_ins, x_ins1, x_ins2, List.all_cons, List.all_nil, Option.isSome_some, Option.map_some, List.getD_cons_zero, List.getD_cons_succ, List.set_cons_zero, List.set_cons_succ, List.map_cons, List.map_nil, List.replicate_zero, List.replicate_succ, List.length_cons, List.length_nil, List.cons_append, List.nil_append, Option.bind_some, if_true, if_false, Bool.false_eq_true, Nat.reduceSub, Nat.reduceAdd, Nat.reduceLeDiff, Nat.reduceLT, vAdd, vSub, vLt, vLe, vGt, vGe, vNeg, vEq, vNe, vEq2, vNe2, vMod, vDiv, vMul, vPow, Int.reduceToNat, vIx0, vIx1, vLenT, vLenC, vLenL, reduceIte, decide_true, decide_false, Bool.not_true, Bool.not_false, beq_self_eq_true, Bool.and_true, Bool.true_and, Bool.and_self, Bool.and_false, Bool.false_and]
  · simp [h, x_seq, x_seq1, x_seq2, x_seq3, x_seq4, x_seq5, x_seq6, x_nil, x_if, x_if1, x_if2, x_if3, x_ret, x_ret1, x_ret2, x_ret3, x_retN, x_asg, x_asg1, x_asg2, x_asg3, x_asg4, x_asg5, x_gN, x_drop, x_drop1, x_drop2, x_bk, x_ct, x_raise, x_tZ, x_tZ1, x_tZ2, x_tE, x_tE1, x_tE2, x_tE3, x_tAnd, x_tAnd1, x_tAnd2, x_tAnd3, x_tOr, x_tOr1, x_tOr2, x_tOr3, x_tNot, x_tNot1, x_tNot2, x_tNot3, x_tTrue, x_z2, x_z21, x_z1, x_z11, x_zC, x_zC1, x_za, x_za1, x_za0, x_zV, x_zK, x_ch, x_ch1, x_ch2, x_eZ, x_eZ1, x_eZ2, x_eV, x_eV1, x_eM, x_eM1, x_b1, x_b2, x_b3, x_s1, x_s2, x_s3, x_oO, x_oO2, x_e2, x_e1, x_eC, x_aN, x_aC, x_tup, x_lst, x_call, x_oC1, x_oC2, x_call0, x_call01, x_eAnd, x_eAnd1, x_eOr, x_eOr1, x_eNot, x_eNot1, x_eIf, x_eIf1, x_fz_int, x_fr_int, x_fz_bl, x_fr_bl, x_fz_str, x_fr_str, x_fz_ty, x_fr_ty, x_fz_tup, x_fr_tup, x_fz_cst, x_fr_cst, x_fz_lst_false, x_fr_lst_false, x_fz_non, x_fr_non, x_fz_lt, x_fr_lt, x_fL0, x_fL1, x_cF, x_cR1, x_cR2, x_cR3, x_iL, x_iL1, x_iT, x_iT1, x_iS, x_iS1, x_iR1, x_iR11, x_iR2, x_iR21, x_iE, x_iE1, x_iV, x_iV1, x_iZ, x_iZ1, x_for, x_fo0, x_fo1, x_fo2, x_fo3, x_fo4, x_fo5, x_fo6, x_fo7, x_gT, x_gC, x_gC0, x_try, x_try1, x_try2, x_try3, x_try4, x_try5, x_nx1, x_nx2, x_try6, x_try7, x_nx3, x_nx4, x_app, x_app1, x_app2, x_lc, x_lcE, x_lc0, x_lc1, x_lcG, x_w0, x_w1, vMinL4, vMaxL4, vAll3, vAny3, vAll4, vAny4, x_wh1, x_wh2, x_wh0, x_abs, vI_ii, vI_ib, vI_it, vI_il, vI_is, vI_bb, vI_bi, vI_tt, vI_tl, vI_ti, vI_ll, vI_lt, vI_ss, vEqB, vNeB, x_ta, x_ta1, x_ta2, x_ta3, x_ta4, x_ta5, x_is, nc_0, nc_1, nc_2, nc_3, nc_4, nc_5, nc_6, nc_7, nc_8, nc_9, nc_10, nc_11, vMax2, vMin2, vIsN0, vIsN1, vNotN0, vNotN1, vIsN2, vNotN2, x_lo, x_lo1, x_lo2, vAll2, vAny2, x_sl, x_sl1, x_sl2, x_pn, x_ps, x_ps1, x_cutL, x_cutC, vEqS, vNeS, x_fz_obj, x_fr_obj, x_make, x_meth, x_meth2, x_meth3, x_isO, x_isO1, x_cat, x_cat1, x_methZ, x_methZ2, x_methZ3, x_callZ, x_callZ1, x_lend1, x_lend2, x_cl_int, x_cl_bl, x_cl_str, x_cl_non, x_cl_tup, x_cl0, x_cl1, x_cl_lst, x_setIx, x_setIx1, x_setIx2, x_callI, x_callI1, x_callI2, x_callI3, x_take0, x_take1, x_take2, x_put0, x_put1, x_cFI, x_cRI1, x_cRI2, x_outR, x_outR1, x_out1, x_out2, x_par, x_par1, x_sort, x_sort1, x_sort2, x_io2, x_io4, vIsB, x_pop, x_lr, x_lr1, x_clr, x_clr1, x_clrE, x_clrE1, x_pop1, x_pop2, x_ins, x_ins1, x_ins2, List.all_cons, List.all_nil, Option.isSome_some, Option.map_some, List.getD_cons_zero, List.getD_cons_succ, List.set_cons_zero, List.set_cons_succ, List.map_cons, List.map_nil, List.replicate_zero, List.replicate_succ, List.length_cons, List.length_nil, List.cons_append, List.nil_append, Option.bind_some, if_true, if_false, Bool.false_eq_true, Nat.reduceSub, Nat.reduceAdd, Nat.reduceLeDiff, Nat.reduceLT, vAdd, vSub, vLt, vLe, vGt, vGe, vNeg, vEq, vNe, vEq2, vNe2, vMod, vDiv, vMul, vPow, Int.reduceToNat, vIx0, vIx1, vLenT, vLenC, vLenL, reduceIte, decide_true, decide_false, Bool.not_true, Bool.not_false, beq_self_eq_true, Bool.and_true, Bool.true_and, Bool.and_self, Bool.and_false, Bool.false_and]
theorem cell_j (ns : List Int) {j : Int} (h : 0 ≤ j) : ∃ c : Int, f__law_cell [.cst (ns.map D.int), .int j] = .ok (.int c) := by
  obtain ⟨k, rfl⟩ : ∃ k : Nat, j = k := ⟨j.toNat, by omega⟩
  exact ⟨_, cell_ok ns k⟩
theorem grid_ok (c : Int) : ∃ g : Int, f__law_grid [.int c] = .ok (.int g) ∧ 1 ≤ g ∧ g ≤ 1000000 := by
  cases h0 : (c % 3 == 0) with
  | true =>
    refine ⟨1 + c / 3 % 1000000, ?_, by omega, by omega⟩
    simp (disch := decide) only [f__law_grid, m__law_grid, x_seq, x_seq1, x_seq2, x_seq3, x_seq4, x_seq5, x_seq6, x_nil, x_if, x_if1, x_if2, x_if3, x_ret, x_ret1, x_ret2, x_ret3, x_retN, x_asg, x_asg1, x_asg2, x_asg3, x_asg4, x_asg5, x_gN, x_drop, x_drop1, x_drop2, x_bk, x_ct, x_raise, x_tZ, x_tZ1, x_tZ2, x_tE, x_tE1, x_tE2, x_tE3, x_tAnd, x_tAnd1, x_tAnd2, x_tAnd3, x_tOr, x_tOr1, x_tOr2, x_tOr3, x_tNot, x_tNot1, x_tNot2, x_tNot3, x_tTrue, x_z2, x_z21, x_z1, x_z11, x_zC, x_zC1, x_za, x_za1, x_za0, x_zV, x_zK, x_ch, x_ch1, x_ch2, x_eZ, x_eZ1, x_eZ2, x_eV, x_eV1, x_eM, x_eM1, x_b1, x_b2, x_b3, x_s1, x_s2, x_s3, x_oO, x_oO2, x_e2, x_e1, x_eC, x_aN, x_aC, x_tup, x_lst, x_call, x_oC1, x_oC2, x_call0, x_call01, x_eAnd, x_eAnd1, x_eOr, x_eOr1, x_eNot, x_eNot1, x_eIf, x_eIf1, x_fz_int, x_fr_int, x_fz_bl, x_fr_bl, x_fz_str, x_fr_str, x_fz_ty, x_fr_ty, x_fz_tup, x_fr_tup, x_fz_cst, x_fr_cst, x_fz_lst_false, x_fr_lst_false, x_fz_non, x_fr_non, x_fz_lt, x_fr_lt, x_fL0, x_fL1, x_cF, x_cR1, x_cR2, x_cR3, x_iL, x_iL1, x_iT, x_iT1, x_iS, x_iS1, x_iR1, x_iR11, x_iR2, x_iR21, x_iE, x_iE1, x_iV, x_iV1, x_iZ, x_iZ1, x_for, x_fo0, x_fo1, x_fo2, x_fo3, x_fo4, x_fo5, x_fo6, x_fo7, x_gT, x_gC, x_gC0, x_try, x_try1, x_try2, x_try3, x_try4, x_try5, x_nx1, x_nx2, x_try6, x_try7, x_nx3, x_nx4, x_app, x_app1, x_app2, x_lc, x_lcE, x_lc0, x_lc1, x_lcG, x_w0, x_w1, vMinL4, vMaxL4, vAll3, vAny3, vAll4, vAny4, x_wh1, x_wh2, x_wh0, x_abs, vI_ii, vI_ib, vI_it, vI_il, vI_is, vI_bb, vI_bi, vI_tt, vI_tl, vI_ti, vI_ll, vI_lt, vI_ss, vEqB, vNeB, x_ta, x_ta1, x_ta2, x_ta3, x_ta4, x_ta5, x_is, nc_0, nc_1, nc_2, nc_3, nc_4, nc_5, nc_6, nc_7, nc_8, nc_9, nc_10, nc_11, vMax2, vMin2, vIsN0, vIsN1, vNotN0, vNotN1, vIsN2, vNotN2, x_lo, x_lo1, x_lo2, vAll2, vAny2, x_sl, x_sl1, x_sl2, x_pn, x_ps, x_ps1, x_cutL, x_cutC, vEqS, vNeS, x_fz_obj, x_fr_obj, x_make, x_meth, x_meth2, x_meth3, x_isO, x_isO1, x_cat, x_cat1, x_methZ, x_methZ2, x_methZ3, x_callZ, x_callZ1, x_lend1, x_lend2, x_cl_int, x_cl_bl, x_cl_str, x_cl_non, x_cl_tup, x_cl0, x_cl1, x_cl_lst, x_setIx, x_setIx1, x_setIx2, x_callI, x_callI1, x_callI2, x_callI3, x_take0, x_take1, x_take2, x_put0, x_put1, x_cFI, x_cRI1, x_cRI2, x_outR, x_outR1, x_out1, x_out2, x_par, x_par1, x_sort, x_sort1, x_sort2, x_io2, x_io4, vIsB, x_pop, x_lr, x_lr1, x_clr, x_clr1, x_clrE, x_clrE1, x_pop1, x_pop2, x_ins, x_ins1, x_ins2, List.all_cons, List.all_nil, Option.isSome_some, Option.map_some, List.getD_cons_zero, List.getD_cons_succ, List.set_cons_zero, List.set_cons_succ, List.map_cons, List.map_nil, List.replicate_zero, List.replicate_succ, List.length_cons, List.length_nil, List.cons_append, List.nil_append, Option.bind_some, if_true, if_false, Bool.false_eq_true, Nat.reduceSub, Nat.reduceAdd, Nat.reduceLeDiff, Nat.reduceLT, vAdd, vSub, vLt, vLe, vGt, vGe, vNeg, vEq, vNe, vEq2, vNe2, vMod, vDiv, vMul, vPow, Int.reduceToNat, vIx0, vIx1, vLenT, vLenC, vLenL, reduceIte, decide_true, decide_false, Bool.not_true, Bool.not_false, beq_self_eq_true, Bool.and_true, Bool.true_and, Bool.and_self, Bool.and_false, Bool.false_and, h0]
  | false =>
    cases h1 : (c % 3 == 1) with
    | true =>
      refine ⟨1 + c / 3 % 12, ?_, by omega, by omega⟩
      simp (disch := decide) only [f__law_grid, m__law_grid, x_seq, x_seq1, x_seq2, x_seq3, x_seq4, x_seq5, x_seq6, x_nil, x_if, x_if1, x_if2, x_if3, x_ret, x_ret1, x_ret2, x_ret3, x_retN, x_asg, x_asg1, x_asg2, x_asg3, x_asg4, x_asg5, x_gN, x_drop, x_drop1, x_drop2, x_bk, x_ct, x_raise, x_tZ, x_tZ1, x_tZ2, x_tE, x_tE1, x_tE2, x_tE3, x_tAnd, x_tAnd1, x_tAnd2, x_tAnd3, x_tOr, x_tOr1, x_tOr2, x_tOr3, x_tNot, x_tNot1, x_tNot2, x_tNot3, x_tTrue, x_z2, x_z21, x_z1, x_z11, x_zC, x_zC1, x_za, x_za1, x_za0, x_zV, x_zK, x_ch, x_ch1, x_ch2, x_eZ, x_eZ1, x_eZ2, x_eV, x_eV1, x_eM, x_eM1, x_b1, x_b2, x_b3, x_s1, x_s2, x_s3, x_oO, x_oO2, x_e2, x_e1, x_eC, x_aN, x_aC, x_tup, x_lst, x_call, x_oC1, x_oC2, x_call0, x_call01, x_eAnd, x_eAnd1, x_eOr, x_eOr1, x_eNot, x_eNot1, x_eIf, x_eIf1, x_fz_int, x_fr_int, x_fz_bl, x_fr_bl, x_fz_str, x_fr_str, x_fz_ty, x_fr_ty, x_fz_tup, x_fr_tup, x_fz_cst, x_fr_cst, x_fz_lst_false, x_fr_lst_false, x_fz_non, x_fr_non, x_fz_lt, x_fr_lt, x_fL0, x_fL1, x_cF, x_cR1, x_cR2, x_cR3, x_iL, x_iL1, x_iT, x_iT1, x_iS, x_iS1, x_iR1, x_iR11, x_iR2, x_iR21, x_iE, x_iE1, x_iV, x_iV1, x_iZ, x_iZ1, x_for, x_fo0, x_fo1, x_fo2, x_fo3, x_fo4, x_fo5, x_fo6, x_fo7, x_gT, x_gC, x_gC0, x_try, x_try1, x_try2, x_try3, x_try4, x_try5, x_nx1, x_nx2, x_try6, x_try7, x_nx3, x_nx4, x_app, x_app1, x_app2, x_lc, x_lcE, x_lc0, x_lc1, x_lcG, x_w0, x_w1, vMinL4, vMaxL4, vAll3, vAny3, vAll4, vAny4, x_wh1, x_wh2, x_wh0, x_abs, vI_ii, vI_ib, vI_it, vI_il, vI_is, vI_bb, vI_bi, vI_tt, vI_tl, vI_ti, vI_ll, vI_lt, vI_ss, vEqB, vNeB, x_ta, x_ta1, x_ta2, x_ta3, x_ta4, x_ta5, x_is, nc_0, nc_1, nc_2, nc_3, nc_4, nc_5, nc_6, nc_7, nc_8, nc_9, nc_10, nc_11, vMax2, vMin2, vIsN0, vIsN1, vNotN0, vNotN1, vIsN2, vNotN2, x_lo, x_lo1, x_lo2, vAll2, vAny2, x_sl, x_sl1, x_sl2, x_pn, x_ps, x_ps1, x_cutL, x_cutC, vEqS, vNeS, x_fz_obj, x_fr_obj, x_make, x_meth, x_meth2, x_meth3, x_isO, x_isO1, x_cat, x_cat1, x_methZ, x_methZ2, x_methZ3, x_callZ, x_callZ1, x_lend1, x_lend2, x_cl_int, x_cl_bl, x_cl_str, x_cl_non, x_cl_tup, x_cl0, x_cl1, x_cl_lst, x_setIx, x_setIx1, x_setIx2, x_callI, x_callI1, x_callI2, x_callI3, x_take0, x_take1, x_take2, x_put0, x_put1, x_cFI, x_cRI1, x_cRI2, x_outR, x_outR1, x_out1, x_out2, x_par, x_par1, x_sort, x_sort1, x_sort2, x_io2, x_io4, vIsB, x_pop, x_lr, x_lr1, x_clr, x_clr1, x_clrE, x_clrE1, x_pop1, x_pop2, x_ins, x_ins1, x_ins2, List.all_cons, List.all_nil, Option.isSome_some, Option.map_some, List.getD_cons_zero, List.getD_cons_succ, List.set_cons_zero, List.set_cons_succ, List.map_cons, List.map_nil, List.replicate_zero, List.replicate_succ, List.length_cons, List.length_nil, List.cons_append, List.nil_append, Option.bind_some, if_true, if_false, Bool.false_eq_true, Nat.reduceSub, Nat.reduceAdd, Nat.reduceLeDiff, Nat.reduceLT, vAdd, vSub, vLt, vLe, vGt, vGe, vNeg, vEq, vNe, vEq2, vNe2, vMod, vDiv, vMul, vPow, Int.reduceToNat, vIx0, vIx1, vLenT, vLenC, vLenL, reduceIte, decide_true, decide_false, Bool.not_true, Bool.not_false, beq_self_eq_true, Bool.and_true, Bool.true_and, Bool.and_self, Bool.and_false, Bool.false_and, h0, h1]
    | false =>
      refine ⟨64, ?_, by omega, by omega⟩
      simp (disch := decide) only [f__law_grid, m__law_grid, x_seq, x_seq1, x_seq2, x_seq3, x_seq4, x_seq5, x_seq6, x_nil, x_if, x_if1, x_if2, x_if3, x_ret, x_ret1, x_ret2, x_ret3, x_retN, x_asg, x_asg1, x_asg2, x_asg3, x_asg4, x_asg5, x_gN, x_drop, x_drop1, x_drop2, x_bk, x_ct, x_raise, x_tZ, x_tZ1, x_tZ2, x_tE, x_tE1, x_tE2, x_tE3, x_tAnd, x_tAnd1, x_tAnd2, x_tAnd3, x_tOr, x_tOr1, x_tOr2, x_tOr3, x_tNot, x_tNot1, x_tNot2, x_tNot3, x_tTrue, x_z2, x_z21, x_z1, x_z11, x_zC, x_zC1, x_za, x_za1, x_za0, x_zV, x_zK, x_ch, x_ch1, x_ch2, x_eZ, x_eZ1, x_eZ2, x_eV, x_eV1, x_eM, x_eM1, x_b1, x_b2, x_b3, x_s1, x_s2, x_s3, x_oO, x_oO2, x_e2, x_e1, x_eC, x_aN, x_aC, x_tup, x_lst, x_call, x_oC1, x_oC2, x_call0, x_call01, x_eAnd, x_eAnd1, x_eOr, x_eOr1, x_eNot, x_eNot1, x_eIf, x_eIf1, x_fz_int, x_fr_int, x_fz_bl, x_fr_bl, x_fz_str, x_fr_str, x_fz_ty, x_fr_ty, x_fz_tup, x_fr_tup, x_fz_cst, x_fr_cst, x_fz_lst_false, x_fr_lst_false, x_fz_non, x_fr_non, x_fz_lt, x_fr_lt, x_fL0, x_fL1, x_cF, x_cR1, x_cR2, x_cR3, x_iL, x_iL1, x_iT, x_iT1, x_iS, x_iS1, x_iR1, x_iR11, x_iR2, x_iR21, x_iE, x_iE1, x_iV, x_iV1, x_iZ, x_iZ1, x_for, x_fo0, x_fo1, x_fo2, x_fo3, x_fo4, x_fo5, x_fo6, x_fo7, x_gT, x_gC, x_gC0, x_try, x_try1, x_try2, x_try3, x_try4, x_try5, x_nx1, x_nx2, x_try6, x_try7, x_nx3, x_nx4, x_app, x_app1, x_app2, x_lc, x_lcE, x_lc0, x_lc1, x_lcG, x_w0, x_w1, vMinL4, vMaxL4, vAll3, vAny3, vAll4, vAny4, x_wh1, x_wh2, x_wh0, x_abs, vI_ii, vI_ib, vI_it, vI_il, vI_is, vI_bb, vI_bi, vI_tt, vI_tl, vI_ti, vI_ll, vI_lt, vI_ss, vEqB, vNeB, x_ta, x_ta1, x_ta2, x_ta3, x_ta4, x_ta5, x_is, nc_0, nc_1, nc_2, nc_3, nc_4, nc_5, nc_6, nc_7, nc_8, nc_9, nc_10, nc_11, vMax2, vMin2, vIsN0, vIsN1, vNotN0, vNotN1, vIsN2, vNotN2, x_lo, x_lo1, x_lo2, vAll2, vAny2, x_sl, x_sl1, x_sl2, x_pn, x_ps, x_ps1, x_cutL, x_cutC, vEqS, vNeS, x_fz_obj, x_fr_obj, x_make, x_meth, x_meth2, x_meth3, x_isO, x_isO1, x_cat, x_cat1, x_methZ, x_methZ2, x_methZ3, x_callZ, x_callZ1, x_lend1, x_lend2, x_cl_int, x_cl_bl, x_cl_str, x_cl_non, x_cl_tup, x_cl0, x_cl1, x_cl_lst, x_setIx, x_setIx1, x_setIx2, x_callI, x_callI1, x_callI2, x_callI3, x_take0, x_take1, x_take2, x_put0, x_put1, x_cFI, x_cRI1, x_cRI2, x_outR, x_outR1, x_out1, x_out2, x_par, x_par1, x_sort, x_sort1, x_sort2, x_io2, x_io4, vIsB, x_pop, x_lr, x_lr1, x_clr, x_clr1, x_clrE, x_clrE1, x_pop1, x_pop2, x_ins, x_ins1, x_ins2, List.all_cons, List.all_nil, Option.isSome_some, Option.map_some, List.getD_cons_zero, List.getD_cons_succ, List.set_cons_zero, List.set_cons_succ, List.map_cons, List.map_nil, List.replicate_zero, List.replicate_succ, List.length_cons, List.length_nil, List.cons_append, List.nil_append, Option.bind_some, if_true, if_false, Bool.false_eq_true, Nat.reduceSub, Nat.reduceAdd, Nat.reduceLeDiff, Nat.reduceLT, vAdd, vSub, vLt, vLe, vGt, vGe, vNeg, vEq, vNe, vEq2, vNe2, vMod, vDiv, vMul, vPow, Int.reduceToNat, vIx0, vIx1, vLenT, vLenC, vLenL, reduceIte, decide_true, decide_false, Bool.not_true, Bool.not_false, beq_self_eq_true, Bool.and_true, Bool.true_and, Bool.and_self, Bool.and_false, Bool.false_and, h0, h1]
theorem abs_nat (a : Int) : (if a < 0 then -a else a) = (a.natAbs : Int) := by split <;> omega
theorem euclid2 {t : MT} {b : MS} (ht : t = tZ (Bn.z2 gNe (zVar 3) (zC (.int 0)))) (hb : b = sPar 2 3 (aCons (eVar 3) (aCons (eZ (Bn.z2 gMod (zVar 2) (zVar 3))) aNil))) (x0 x1 : Option D) :
    ∀ (n x y : Nat), y < n → whileM t b n [x0, x1, some (.int x), some (.int y)] = .nx [x0, x1, some (.int (Nat.gcd x y : Nat)), some (.int 0)]
  | 0, _, _, h => absurd h (Nat.not_lt_zero _)
  | n + 1, x, y, h => by
    rw [x_wh]
    by_cases hy : 0 < y
    · have hy' : (0 : Int) < (y : Int) := by omega
      have hne : ((y : Int) == 0) = false := by simp; omega
      have e := euclid2 ht hb x0 x1 n y (x % y) (Nat.lt_of_lt_of_le (Nat.mod_lt _ hy) (by omega))
      have e1 : t [x0, x1, some (.int x), some (.int y)] = .ok true [x0, x1, some (.int x), some (.int y)] := by
        subst ht
        simp only [x_seq, x_seq1, x_seq2, x_seq3, x_seq4, x_seq5, x_seq6, x_nil, x_if, x_if1, x_if2, x_if3, x_ret, x_ret1, x_ret2, x_ret3, x_retN, x_asg, x_asg1, x_asg2, x_asg3, x_asg4, x_asg5, x_gN, x_drop, x_drop1, x_drop2, x_bk, x_ct, x_raise, x_tZ, x_tZ1, x_tZ2, x_tE, x_tE1, x_tE2, x_tE3, x_tAnd, x_tAnd1, x_tAnd2, x_tAnd3, x_tOr, x_tOr1, x_tOr2, x_tOr3, x_tNot, x_tNot1, x_tNot2, x_tNot3, x_tTrue, x_z2, x_z21, x_z1, x_z11, x_zC, x_zC1, x_za, x_za1, x_za0, x_zV, x_zK, x_ch, x_ch1, x_ch2, x_eZ, x_eZ1, x_eZ2, x_eV, x_eV1, x_eM, x_eM1, x_b1, x_b2, x_b3, x_s1, x_s2, x_s3, x_oO, x_oO2, x_e2, x_e1, x_eC, x_aN, x_aC, x_tup, x_lst, x_call, x_oC1, x_oC2, x_call0, x_call01, x_eAnd, x_eAnd1, x_eOr, x_eOr1, x_eNot, x_eNot1, x_eIf, x_eIf1, x_fz_int, x_fr_int, x_fz_bl, x_fr_bl, x_fz_str, x_fr_str, x_fz_ty, x_fr_ty, x_fz_tup, x_fr_tup, x_fz_cst, x_fr_cst, x_fz_lst_false, x_fr_lst_false, x_fz_non, x_fr_non, x_fz_lt, x_fr_lt, x_fL0, x_fL1, x_cF, x_cR1, x_cR2, x_cR3, x_iL, x_iL1, x_iT, x_iT1, x_iS, x_iS1, x_iR1, x_iR11, x_iR2, x_iR21, x_iE, x_iE1, x_iV, x_iV1, x_iZ, x_iZ1, x_for, x_fo0, x_fo1, x_fo2, x_fo3, x_fo4, x_fo5, x_fo6, x_fo7, x_gT, x_gC, x_gC0, x_try, x_try1, x_try2, x_try3, x_try4, x_try5, x_nx1, x_nx2, x_try6, x_try7, x_nx3, x_nx4, x_app, x_app1, x_app2, x_lc, x_lcE, x_lc0, x_lc1, x_lcG, x_w0, x_w1, vMinL4, vMaxL4, vAll3, vAny3, vAll4, vAny4, x_wh1, x_wh2, x_wh0, x_abs, vI_ii, vI_ib, vI_it, vI_il, vI_is, vI_bb, vI_bi, vI_tt, vI_tl, vI_ti, vI_ll, vI_lt, vI_ss, vEqB, vNeB, x_ta, x_ta1, x_ta2, x_ta3, x_ta4, x_ta5, x_is, nc_0, nc_1, nc_2, nc_3, nc_4, nc_5, nc_6, nc_7, nc_8, nc_9, nc_10, nc_11, vMax2, vMin2, vIsN0, vIsN1, vNotN0, vNotN1, vIsN2, vNotN2, x_lo, x_lo1, x_lo2, vAll2, vAny2, x_sl, x_sl1, x_sl2, x_pn, x_ps, x_ps1, x_cutL, x_cutC, vEqS, vNeS, x_fz_obj, x_fr_obj, x_make, x_meth, x_meth2, x_meth3, x_isO, x_isO1, x_cat, x_cat1, x_methZ, x_methZ2, x_methZ3, x_callZ, x_callZ1, x_lend1, x_lend2, x_cl_int, x_cl_bl, x_cl_str, x_cl_non, x_cl_tup, x_cl0, x_cl1, x_cl_lst, x_setIx, x_setIx1, x_setIx2, x_callI, x_callI1, x_callI2, x_callI3, x_take0, x_take1, x_take2, x_put0, x_put1, x_cFI, x_cRI1, x_cRI2, x_outR, x_outR1, x_out1, x_out2, x_par, x_par1, x_sort, x_sort1, x_sort2, x_io2, x_io4, vIsB, x_pop, x_lr, x_lr1, x_clr, x_clr1, x_clrE, x_clrE1, x_pop1, x_pop2, x_ins, x_ins1, x_ins2, List.all_cons, List.all_nil, Option.isSome_some, Option.map_some, List.getD_cons_zero, List.getD_cons_succ, List.set_cons_zero, List.set_cons_succ, List.map_cons, List.map_nil, List.replicate_zero, List.replicate_succ, List.length_cons, List.length_nil, List.cons_append, List.nil_append, Option.bind_some, if_true, if_false, Bool.false_eq_true, Nat.reduceSub, Nat.reduceAdd, Nat.reduceLeDiff, Nat.reduceLT, vAdd, vSub, vLt, vLe, vGt, vGe, vNeg, vEq, vNe, vEq2, vNe2, vMod, vDiv, vMul, vPow, Int.reduceToNat, vIx0, vIx1, vLenT, vLenC, vLenL, reduceIte, decide_true, decide_false, Bool.not_true, Bool.not_false, beq_self_eq_true, Bool.and_true, Bool.true_and, Bool.and_self, Bool.and_false, Bool.false_and, hne]
      have e2 : b [x0, x1, some (.int x), some (.int y)] = .nx [x0, x1, some (.int y), some (.int ((x % y : Nat) : Int))] := by
        subst hb
        simp only [x_seq, x_seq1, x_seq2, x_seq3, x_seq4, x_seq5, x_seq6, x_nil, x_if, x_if1, x_if2, x_if3, x_ret, x_ret1, x_ret2, x_ret3, x_retN, x_asg, x_asg1, x_asg2, x_asg3, x_asg4, x_asg5, x_gN, x_drop, x_drop1, x_drop2, x_bk, x_ct, x_raise, x_tZ, x_tZ1, x_tZ2, x_tE, x_tE1, x_tE2, x_tE3, x_tAnd, x_tAnd1, x_tAnd2, x_tAnd3, x_tOr, x_tOr1, x_tOr2, x_tOr3, x_tNot, x_tNot1, x_tNot2, x_tNot3, x_tTrue, x_z2, x_z21, x_z1, x_z11, x_zC, x_zC1, x_za, x_za1, x_za0, x_zV, x_zK, x_ch, x_ch1, x_ch2, x_eZ, x_eZ1, x_eZ2, x_eV, x_eV1, x_eM, x_eM1, x_b1, x_b2, x_b3, x_s1, x_s2, x_s3, x_oO, x_oO2, x_e2, x_e1, x_eC, x_aN, x_aC, x_tup, x_lst, x_call, x_oC1, x_oC2, x_call0, x_call01, x_eAnd, x_eAnd1, x_eOr, x_eOr1, x_eNot, x_eNot1, x_eIf, x_eIf1, x_fz_int, x_fr_int, x_fz_bl, x_fr_bl, x_fz_str, x_fr_str, x_fz_ty, x_fr_ty, x_fz_tup, x_fr_tup, x_fz_cst, x_fr_cst, x_fz_lst_false, x_fr_lst_false, x_fz_non, x_fr_non, x_fz_lt, x_fr_lt, x_fL0, x_fL1, x_cF, x_cR1, x_cR2, x_cR3, x_iL, x_iL1, x_iT, x_iT1, x_iS, x_iS1, x_iR1, x_iR11, x_iR2, x_iR21, x_iE, x_iE1, x_iV, x_iV1, x_iZ, x_iZ1, x_for, x_fo0, x_fo1, x_fo2, x_fo3, x_fo4, x_fo5, x_fo6, x_fo7, x_gT, x_gC, x_gC0, x_try, x_try1, x_try2, x_try3, x_try4, x_try5, x_nx1, x_nx2, x_try6, x_try7, x_nx3, x_nx4, x_app, x_app1, x_app2, x_lc, x_lcE, x_lc0, x_lc1, x_lcG, x_w0, x_w1, vMinL4, vMaxL4, vAll3, vAny3, vAll4, vAny4, x_wh1, x_wh2, x_wh0, x_abs, vI_ii, vI_ib, vI_it, vI_il, vI_is, vI_bb, vI_bi, vI_tt, vI_tl, vI_ti, vI_ll, vI_lt, vI_ss, vEqB, vNeB, x_ta, x_ta1, x_ta2, x_ta3, x_ta4, x_ta5, x_is, nc_0, nc_1, nc_2, nc_3, nc_4, nc_5, nc_6, nc_7, nc_8, nc_9, nc_10, nc_11, vMax2, vMin2, vIsN0, vIsN1, vNotN0, vNotN1, vIsN2, vNotN2, x_lo, x_lo1, x_lo2, vAll2, vAny2, x_sl, x_sl1, x_sl2, x_pn, x_ps, x_ps1, x_cutL, x_cutC, vEqS, vNeS, x_fz_obj, x_fr_obj, x_make, x_meth, x_meth2, x_meth3, x_isO, x_isO1, x_cat, x_cat1, x_methZ, x_methZ2, x_methZ3, x_callZ, x_callZ1, x_lend1, x_lend2, x_cl_int, x_cl_bl, x_cl_str, x_cl_non, x_cl_tup, x_cl0, x_cl1, x_cl_lst, x_setIx, x_setIx1, x_setIx2, x_callI, x_callI1, x_callI2, x_callI3, x_take0, x_take1, x_take2, x_put0, x_put1, x_cFI, x_cRI1, x_cRI2, x_outR, x_outR1, x_out1, x_out2, x_par, x_par1, x_sort, x_sort1, x_sort2, x_io2, x_io4, vIsB, x_pop, x_lr, x_lr1, x_clr, x_clr1, x_clrE, x_clrE1, x_pop1, x_pop2, x_ins, x_ins1, x_ins2, List.all_cons, List.all_nil, Option.isSome_some, Option.map_some, List.getD_cons_zero, List.getD_cons_succ, List.set_cons_zero, List.set_cons_succ, List.map_cons, List.map_nil, List.replicate_zero, List.replicate_succ, List.length_cons, List.length_nil, List.cons_append, List.nil_append, Option.bind_some, if_true, if_false, Bool.false_eq_true, Nat.reduceSub, Nat.reduceAdd, Nat.reduceLeDiff, Nat.reduceLT, vAdd, vSub, vLt, vLe, vGt, vGe, vNeg, vEq, vNe, vEq2, vNe2, vMod, vDiv, vMul, vPow, Int.reduceToNat, vIx0, vIx1, vLenT, vLenC, vLenL, reduceIte, decide_true, decide_false, Bool.not_true, Bool.not_false, beq_self_eq_true, Bool.and_true, Bool.true_and, Bool.and_self, Bool.and_false, Bool.false_and, vMod hy']
        rfl
      rw [e1, x_wh1, e2]
      show whileM t b n _ = _
      rw [e, Nat.gcd_comm y, ← Nat.gcd_rec, Nat.gcd_comm]
    · have : y = 0 := by omega
      subst this
      have e1 : t [x0, x1, some (.int x), some (.int (0 : Nat))] = .ok false [x0, x1, some (.int x), some (.int (0 : Nat))] := by
        subst ht
        rfl
      rw [e1, x_wh2, Nat.gcd_zero_right]
      rfl
/-- a fraction in lowest terms -/
structure Low (p q a b : Int) : Prop where
  pos : 1 ≤ q
  cross : p * b = a * q
  gcd : Nat.gcd p.natAbs q.natAbs = 1
  pa : p.natAbs ≤ a.natAbs
  qb : q.natAbs ≤ b.natAbs
theorem low_of {a b : Int} (h : 0 < b) : Low (a / (Nat.gcd a.natAbs b.natAbs : Nat)) (b / (Nat.gcd a.natAbs b.natAbs : Nat)) a b := by
  have g0 : 0 < Nat.gcd a.natAbs b.natAbs := Nat.gcd_pos_of_pos_right _ (by omega)
  obtain ⟨x, hx⟩ : ((Nat.gcd a.natAbs b.natAbs : Nat) : Int) ∣ a := Int.ofNat_dvd_left.mpr (Nat.gcd_dvd_left _ _)
  obtain ⟨y, hy⟩ : ((Nat.gcd a.natAbs b.natAbs : Nat) : Int) ∣ b := Int.ofNat_dvd_left.mpr (Nat.gcd_dvd_right _ _)
  have cp := Nat.coprime_div_gcd_div_gcd g0
  generalize hg : Nat.gcd a.natAbs b.natAbs = g at *
  have gi : (g : Int) ≠ 0 := by omega
  have e1 : a / (g : Int) = x := by rw [hx]; exact Int.mul_ediv_cancel_left _ gi
  have e2 : b / (g : Int) = y := by rw [hy]; exact Int.mul_ediv_cancel_left _ gi
  have n1 : a.natAbs = g * x.natAbs := by rw [hx, Int.natAbs_mul, Int.natAbs_natCast]
  have n2 : b.natAbs = g * y.natAbs := by rw [hy, Int.natAbs_mul, Int.natAbs_natCast]
  rw [e1, e2]
  have y1 : 1 ≤ y := by
    rcases Int.lt_or_le 0 y with h1 | h1
    · omega
    · have := Int.mul_le_mul_of_nonneg_left h1 (show (0 : Int) ≤ g by omega)
      omega
  refine ⟨y1, ?_, ?_, ?_, ?_⟩
  · rw [hx, hy]; grind
  · rw [n1, n2, Nat.mul_div_cancel_left _ g0, Nat.mul_div_cancel_left _ g0] at cp
    exact cp
  · rw [n1]; exact Nat.le_mul_of_pos_left _ g0
  · rw [n2]; exact Nat.le_mul_of_pos_left _ g0
theorem lowest_ok (a b : Int) (hb : 0 < b) (hs : b.natAbs < 2 ^ 80) : ∃ p q : Int, f__law_lowest [.int a, .int b] = .ok (.tup [.int p, .int q]) ∧ Low p q a b := by
  have h1 : 0 < Nat.gcd a.natAbs b.natAbs := Nat.gcd_pos_of_pos_right _ (by omega)
  have h2 : Nat.gcd a.natAbs b.natAbs ≤ b.natAbs := Nat.gcd_le_right _ (by omega)
  have h3 := log2_le (n := ((Nat.gcd a.natAbs b.natAbs : Nat) : Int).natAbs) (m := 80) (by rw [Int.natAbs_natCast]; exact Nat.lt_of_le_of_lt h2 hs)
  have s1 : 0 < ((Nat.gcd a.natAbs b.natAbs : Nat) : Int) := by omega
  have s2 : ((Nat.gcd a.natAbs b.natAbs : Nat) : Int).natAbs.log2 < 9000 := by omega
  have e := euclid2 rfl rfl (some (.int a)) (some (.int b)) (b.natAbs + 1) a.natAbs b.natAbs (by omega)
  have eb : ((b.natAbs : Nat) : Int) = b := by omega
  rw [eb] at e
  refine ⟨_, _, ?_, low_of hb⟩
  simp only [f__law_lowest, m__law_lowest, x_seq, x_seq1, x_seq2, x_seq3, x_seq4, x_seq5, x_seq6, x_nil, x_if, x_if1, x_if2, x_if3, x_ret, x_ret1, x_ret2, x_ret3, x_retN, x_asg, x_asg1, x_asg2, x_asg3, x_asg4, x_asg5, x_gN, x_drop, x_drop1, x_drop2, x_bk, x_ct, x_raise, x_tZ, x_tZ1, x_tZ2, x_tE, x_tE1, x_tE2, x_tE3, x_tAnd, x_tAnd1, x_tAnd2, x_tAnd3, x_tOr, x_tOr1, x_tOr2, x_tOr3, x_tNot, x_tNot1, x_tNot2, x_tNot3, x_tTrue, x_z2, x_z21, x_z1, x_z11, x_zC, x_zC1, x_za, x_za1, x_za0, x_zV, x_zK, x_ch, x_ch1, x_ch2, x_eZ, x_eZ1, x_eZ2, x_eV, x_eV1, x_eM, x_eM1, x_b1, x_b2, x_b3, x_s1, x_s2, x_s3, x_oO, x_oO2, x_e2, x_e1, x_eC, x_aN, x_aC, x_tup, x_lst, x_call, x_oC1, x_oC2, x_call0, x_call01, x_eAnd, x_eAnd1, x_eOr, x_eOr1, x_eNot, x_eNot1, x_eIf, x_eIf1, x_fz_int, x_fr_int, x_fz_bl, x_fr_bl, x_fz_str, x_fr_str, x_fz_ty, x_fr_ty, x_fz_tup, x_fr_tup, x_fz_cst, x_fr_cst, x_fz_lst_false, x_fr_lst_false, x_fz_non, x_fr_non, x_fz_lt, x_fr_lt, x_fL0, x_fL1, x_cF, x_cR1, x_cR2, x_cR3, x_iL, x_iL1, x_iT, x_iT1, x_iS, x_iS1, x_iR1, x_iR11, x_iR2, x_iR21, x_iE, x_iE1, x_iV, x_iV1, x_iZ, x_iZ1, x_for, x_fo0, x_fo1, x_fo2, x_fo3, x_fo4, x_fo5, x_fo6, x_fo7, x_gT, x_gC, x_gC0, x_try, x_try1, x_try2, x_try3, x_try4, x_try5, x_nx1, x_nx2, x_try6, x_try7, x_nx3, x_nx4, x_app, x_app1, x_app2, x_lc, x_lcE, x_lc0, x_lc1, x_lcG, x_w0, x_w1, vMinL4, vMaxL4, vAll3, vAny3, vAll4, vAny4, x_wh1, x_wh2, x_wh0, x_abs, vI_ii, vI_ib, vI_it, vI_il, vI_is, vI_bb, vI_bi, vI_tt, vI_tl, vI_ti, vI_ll, vI_lt, vI_ss, vEqB, vNeB, x_ta, x_ta1, x_ta2, x_ta3, x_ta4, x_ta5, x_is, nc_0, nc_1, nc_2, nc_3, nc_4, nc_5, nc_6, nc_7, nc_8, nc_9, nc_10, nc_11, vMax2, vMin2, vIsN0, vIsN1, vNotN0, vNotN1, vIsN2, vNotN2, x_lo, x_lo1, x_lo2, vAll2, vAny2, x_sl, x_sl1, x_sl2, x_pn, x_ps, x_ps1, x_cutL, x_cutC, vEqS, vNeS, x_fz_obj, x_fr_obj, x_make, x_meth, x_meth2, x_meth3, x_isO, x_isO1, x_cat, x_cat1, x_methZ, x_methZ2, x_methZ3, x_callZ, x_callZ1, x_lend1, x_lend2, x_cl_int, x_cl_bl, x_cl_str, x_cl_non, x_cl_tup, x_cl0, x_cl1, x_cl_lst, x_setIx, x_setIx1, x_setIx2, x_callI, x_callI1, x_callI2, x_callI3, x_take0, x_take1, x_take2, x_put0, x_put1, x_cFI, x_cRI1, x_cRI2, x_outR, x_outR1, x_out1, x_out2, x_par, x_par1, x_sort, x_sort1, x_sort2, x_io2, x_io4, vIsB, x_pop, x_lr, x_lr1, x_clr, x_clr1, x_clrE, x_clrE1, x_pop1, x_pop2, x_ins, x_ins1, x_ins2, List.all_cons, List.all_nil, Option.isSome_some, Option.map_some, List.getD_cons_zero, List.getD_cons_succ, List.set_cons_zero, List.set_cons_succ, List.map_cons, List.map_nil, List.replicate_zero, List.replicate_succ, List.length_cons, List.length_nil, List.cons_append, List.nil_append, Option.bind_some, if_true, if_false, Bool.false_eq_true, Nat.reduceSub, Nat.reduceAdd, Nat.reduceLeDiff, Nat.reduceLT, vAdd, vSub, vLt, vLe, vGt, vGe, vNeg, vEq, vNe, vEq2, vNe2, vMod, vDiv, vMul, vPow, Int.reduceToNat, vIx0, vIx1, vLenT, vLenC, vLenL, reduceIte, decide_true, decide_false, Bool.not_true, Bool.not_false, beq_self_eq_true, Bool.and_true, Bool.true_and, Bool.and_self, Bool.and_false, Bool.false_and, abs_nat, fuel__law_lowest1, e, vDiv s1 s2]
theorem numb_ok (c : Int) : ∃ p q : Int, f__law_number [.int c] = .ok (.tup [.int p, .int q]) ∧ 1 ≤ q ∧ Nat.gcd p.natAbs q.natAbs = 1 ∧ p.natAbs ≤ 999999999 ∧ q.natAbs ≤ 999999999 := by
  have w : L2.CMul c 48271 := .inr (by decide)
  cases h0 : (c % 3 == 0) with
  | true =>
    obtain ⟨a, ha, a0⟩ : ∃ x, c / 3 % 1999999999 - 999999999 = x ∧ x.natAbs ≤ 999999999 := ⟨_, rfl, by omega⟩
    obtain ⟨b, hb, b0, b1⟩ : ∃ x, 1 + c * 48271 % 999999937 = x ∧ 0 < x ∧ x ≤ 999999999 := ⟨_, rfl, by omega, by omega⟩
    obtain ⟨p, q, e, L⟩ := lowest_ok a b b0 (by omega)
    have := L.pa; have := L.qb
    refine ⟨p, q, ?_, L.pos, L.gcd, by omega, by omega⟩
    simp (disch := decide) only [f__law_number, m__law_number, x_seq, x_seq1, x_seq2, x_seq3, x_seq4, x_seq5, x_seq6, x_nil, x_if, x_if1, x_if2, x_if3, x_ret, x_ret1, x_ret2, x_ret3, x_retN, x_asg, x_asg1, x_asg2, x_asg3, x_asg4, x_asg5, x_gN, x_drop, x_drop1, x_drop2, x_bk, x_ct, x_raise, x_tZ, x_tZ1, x_tZ2, x_tE, x_tE1, x_tE2, x_tE3, x_tAnd, x_tAnd1, x_tAnd2, x_tAnd3, x_tOr, x_tOr1, x_tOr2, x_tOr3, x_tNot, x_tNot1, x_tNot2, x_tNot3, x_tTrue, x_z2, x_z21, x_z1, x_z11, x_zC, x_zC1, x_za, x_za1, x_za0, x_zV, x_zK, x_ch, x_ch1, x_ch2, x_eZ, x_eZ1, x_eZ2, x_eV, x_eV1, x_eM, x_eM1, x_b1, x_b2, x_b3, x_s1, x_s2, x_s3, x_oO, x_oO2, x_e2, x_e1, x_eC, x_aN, x_aC, x_tup, x_lst, x_call, x_oC1, x_oC2, x_call0, x_call01, x_eAnd, x_eAnd1, x_eOr, x_eOr1, x_eNot, x_eNot1, x_eIf, x_eIf1, x_fz_int, x_fr_int, x_fz_bl, x_fr_bl, x_fz_str, x_fr_str, x_fz_ty, x_fr_ty, x_fz_tup, x_fr_tup, x_fz_cst, x_fr_cst, x_fz_lst_false, x_fr_lst_false, x_fz_non, x_fr_non, x_fz_lt, x_fr_lt, x_fL0, x_fL1, x_cF, x_cR1, x_cR2, x_cR3, x_iL, x_iL1, x_iT, x_iT1, x_iS, x_iS1, x_iR1, x_iR11, x_iR2, x_iR21, x_iE, x_iE1, x_iV, x_iV1, x_iZ, x_iZ1, x_for, x_fo0, x_fo1, x_fo2, x_fo3, x_fo4, x_fo5, x_fo6, x_fo7, x_gT, x_gC, x_gC0, x_try, x_try1, x_try2, x_try3, x_try4, x_try5, x_nx1, x_nx2, x_try6, x_try7, x_nx3, x_nx4, x_app, x_app1, x_app2, x_lc, x_lcE, x_lc0, x_lc1, x_lcG, x_w0, x_w1, vMinL4, vMaxL4, vAll3, vAny3, vAll4, vAny4, x_wh1, x_wh2, x_wh0, x_abs, vI_ii, vI_ib, vI_it, vI_il, vI_is, vI_bb, vI_bi, vI_tt, vI_tl, vI_ti, vI_ll, vI_lt, vI_ss, vEqB, vNeB, x_ta, x_ta1, x_ta2, x_ta3, x_ta4, x_ta5, x_is, nc_0, nc_1, nc_2, nc_3, nc_4, nc_5, nc_6, nc_7, nc_8, nc_9, nc_10, nc_11, vMax2, vMin2, vIsN0, vIsN1, vNotN0, vNotN1, vIsN2, vNotN2, x_lo, x_lo1, x_lo2, vAll2, vAny2, x_sl, x_sl1, x_sl2, x_pn, x_ps, x_ps1, x_cutL, x_cutC, vEqS, vNeS, x_fz_obj, x_fr_obj, x_make, x_meth, x_meth2, x_meth3, x_isO, x_isO1, x_cat, x_cat1, x_methZ, x_methZ2, x_methZ3, x_callZ, x_callZ1, x_lend1, x_lend2, x_cl_int, x_cl_bl, x_cl_str, x_cl_non, x_cl_tup, x_cl0, x_cl1, x_cl_lst, x_setIx, x_setIx1, x_setIx2, x_callI, x_callI1, x_callI2, x_callI3, x_take0, x_take1, x_take2, x_put0, x_put1, x_cFI, x_cRI1, x_cRI2, x_outR, x_outR1, x_out1, x_out2, x_par, x_par1, x_sort, x_sort1, x_sort2, x_io2, x_io4, vIsB, x_pop, x_lr, x_lr1, x_clr, x_clr1, x_clrE, x_clrE1, x_pop1, x_pop2, x_ins, x_ins1, x_ins2, List.all_cons, List.all_nil, Option.isSome_some, Option.map_some, List.getD_cons_zero, List.getD_cons_succ, List.set_cons_zero, List.set_cons_succ, List.map_cons, List.map_nil, List.replicate_zero, List.replicate_succ, List.length_cons, List.length_nil, List.cons_append, List.nil_append, Option.bind_some, if_true, if_false, Bool.false_eq_true, Nat.reduceSub, Nat.reduceAdd, Nat.reduceLeDiff, Nat.reduceLT, vAdd, vSub, vLt, vLe, vGt, vGe, vNeg, vEq, vNe, vEq2, vNe2, vMod, vDiv, vMul, vPow, Int.reduceToNat, vIx0, vIx1, vLenT, vLenC, vLenL, reduceIte, decide_true, decide_false, Bool.not_true, Bool.not_false, beq_self_eq_true, Bool.and_true, Bool.true_and, Bool.and_self, Bool.and_false, Bool.false_and, h0, vMulS w, ha, hb, e]
  | false =>
    cases h1 : (c % 3 == 1) with
    | true =>
      obtain ⟨a, ha, a0⟩ : ∃ x, c / 3 % 9 - 4 = x ∧ x.natAbs ≤ 999999999 := ⟨_, rfl, by omega⟩
      refine ⟨a, 1, ?_, by decide, by exact Nat.gcd_one_right _, a0, by decide⟩
      simp (disch := decide) only [f__law_number, m__law_number, u__law_number_1, x_seq, x_seq1, x_seq2, x_seq3, x_seq4, x_seq5, x_seq6, x_nil, x_if, x_if1, x_if2, x_if3, x_ret, x_ret1, x_ret2, x_ret3, x_retN, x_asg, x_asg1, x_asg2, x_asg3, x_asg4, x_asg5, x_gN, x_drop, x_drop1, x_drop2, x_bk, x_ct, x_raise, x_tZ, x_tZ1, x_tZ2, x_tE, x_tE1, x_tE2, x_tE3, x_tAnd, x_tAnd1, x_tAnd2, x_tAnd3, x_tOr, x_tOr1, x_tOr2, x_tOr3, x_tNot, x_tNot1, x_tNot2, x_tNot3, x_tTrue, x_z2, x_z21, x_z1, x_z11, x_zC, x_zC1, x_za, x_za1, x_za0, x_zV, x_zK, x_ch, x_ch1, x_ch2, x_eZ, x_eZ1, x_eZ2, x_eV, x_eV1, x_eM, x_eM1, x_b1, x_b2, x_b3, x_s1, x_s2, x_s3, x_oO, x_oO2, x_e2, x_e1, x_eC, x_aN, x_aC, x_tup, x_lst, x_call, x_oC1, x_oC2, x_call0, x_call01, x_eAnd, x_eAnd1, x_eOr, x_eOr1, x_eNot, x_eNot1, x_eIf, x_eIf1, x_fz_int, x_fr_int, x_fz_bl, x_fr_bl, x_fz_str, x_fr_str, x_fz_ty, x_fr_ty, x_fz_tup, x_fr_tup, x_fz_cst, x_fr_cst, x_fz_lst_false, x_fr_lst_false, x_fz_non, x_fr_non, x_fz_lt, x_fr_lt, x_fL0, x_fL1, x_cF, x_cR1, x_cR2, x_cR3, x_iL, x_iL1, x_iT, x_iT1, x_iS, x_iS1, x_iR1, x_iR11, x_iR2, x_iR21, x_iE, x_iE1, x_iV, x_iV1, x_iZ, x_iZ1, x_for, x_fo0, x_fo1, x_fo2, x_fo3, x_fo4, x_fo5, x_fo6, x_fo7, x_gT, x_gC, x_gC0, x_try, x_try1, x_try2, x_try3, x_try4, x_try5, x_nx1, x_nx2, x_try6, x_try7, x_nx3, x_nx4, x_app, x_app1, x_app2, x_lc, x_lcE, x_lc0, x_lc1, x_lcG, x_w0, x_w1, vMinL4, vMaxL4, vAll3, vAny3, vAll4, vAny4, x_wh1, x_wh2, x_wh0, x_abs, vI_ii, vI_ib, vI_it, vI_il, vI_is, vI_bb, vI_bi, vI_tt, vI_tl, vI_ti, vI_ll, vI_lt, vI_ss, vEqB, vNeB, x_ta, x_ta1, x_ta2, x_ta3, x_ta4, x_ta5, x_is, nc_0, nc_1, nc_2, nc_3, nc_4, nc_5, nc_6, nc_7, nc_8, nc_9, nc_10, nc_11, vMax2, vMin2, vIsN0, vIsN1, vNotN0, vNotN1, vIsN2, vNotN2, x_lo, x_lo1, x_lo2, vAll2, vAny2, x_sl, x_sl1, x_sl2, x_pn, x_ps, x_ps1, x_cutL, x_cutC, vEqS, vNeS, x_fz_obj, x_fr_obj, x_make, x_meth, x_meth2, x_meth3, x_isO, x_isO1, x_cat, x_cat1, x_methZ, x_methZ2, x_methZ3, x_callZ, x_callZ1, x_lend1, x_lend2, x_cl_int, x_cl_bl, x_cl_str, x_cl_non, x_cl_tup, x_cl0, x_cl1, x_cl_lst, x_setIx, x_setIx1, x_setIx2, x_callI, x_callI1, x_callI2, x_callI3, x_take0, x_take1, x_take2, x_put0, x_put1, x_cFI, x_cRI1, x_cRI2, x_outR, x_outR1, x_out1, x_out2, x_par, x_par1, x_sort, x_sort1, x_sort2, x_io2, x_io4, vIsB, x_pop, x_lr, x_lr1, x_clr, x_clr1, x_clrE, x_clrE1, x_pop1, x_pop2, x_ins, x_ins1, x_ins2, List.all_cons, List.all_nil, Option.isSome_some, Option.map_some, List.getD_cons_zero, List.getD_cons_succ, List.set_cons_zero, List.set_cons_succ, List.map_cons, List.map_nil, List.replicate_zero, List.replicate_succ, List.length_cons, List.length_nil, List.cons_append, List.nil_append, Option.bind_some, if_true, if_false, Bool.false_eq_true, Nat.reduceSub, Nat.reduceAdd, Nat.reduceLeDiff, Nat.reduceLT, vAdd, vSub, vLt, vLe, vGt, vGe, vNeg, vEq, vNe, vEq2, vNe2, vMod, vDiv, vMul, vPow, Int.reduceToNat, vIx0, vIx1, vLenT, vLenC, vLenL, reduceIte, decide_true, decide_false, Bool.not_true, Bool.not_false, beq_self_eq_true, Bool.and_true, Bool.true_and, Bool.and_self, Bool.and_false, Bool.false_and, h0, h1, ha]
    | false =>
      obtain ⟨a, ha, a0⟩ : ∃ x, c / 3 % 41 - 20 = x ∧ x.natAbs ≤ 999999999 := ⟨_, rfl, by omega⟩
      obtain ⟨b, hb, b0, b1⟩ : ∃ x, 1 + c / 123 % 9 = x ∧ 0 < x ∧ x ≤ 999999999 := ⟨_, rfl, by omega, by omega⟩
      obtain ⟨p, q, e, L⟩ := lowest_ok a b b0 (by omega)
      have := L.pa; have := L.qb
      refine ⟨p, q, ?_, L.pos, L.gcd, by omega, by omega⟩
      simp (disch := decide) only [f__law_number, m__law_number, u__law_number_1, u__law_number_2, x_seq, x_seq1, x_seq2, x_seq3, x_seq4, x_seq5, x_seq6, x_nil, x_if, x_if1, x_if2, x_if3, x_ret, x_ret1, x_ret2, x_ret3, x_retN, x_asg, x_asg1, x_asg2, x_asg3, x_asg4, x_asg5, x_gN, x_drop, x_drop1, x_drop2, x_bk, x_ct, x_raise, x_tZ, x_tZ1, x_tZ2, x_tE, x_tE1, x_tE2, x_tE3, x_tAnd, x_tAnd1, x_tAnd2, x_tAnd3, x_tOr, x_tOr1, x_tOr2, x_tOr3, x_tNot, x_tNot1, x_tNot2, x_tNot3, x_tTrue, x_z2, x_z21, x_z1, x_z11, x_zC, x_zC1, x_za, x_za1, x_za0, x_zV, x_zK, x_ch, x_ch1, x_ch2, x_eZ, x_eZ1, x_eZ2, x_eV, x_eV1, x_eM, x_eM1, x_b1, x_b2, x_b3, x_s1, x_s2, x_s3, x_oO, x_oO2, x_e2, x_e1, x_eC, x_aN, x_aC, x_tup, x_lst, x_call, x_oC1, x_oC2, x_call0, x_call01, x_eAnd, x_eAnd1, x_eOr, x_eOr1, x_eNot, x_eNot1, x_eIf, x_eIf1, x_fz_int, x_fr_int, x_fz_bl, x_fr_bl, x_fz_str, x_fr_str, x_fz_ty, x_fr_ty, x_fz_tup, x_fr_tup, x_fz_cst, x_fr_cst, x_fz_lst_false, x_fr_lst_false, x_fz_non, x_fr_non, x_fz_lt, x_fr_lt, x_fL0, x_fL1, x_cF, x_cR1, x_cR2, x_cR3, x_iL, x_iL1, x_iT, x_iT1, x_iS, x_iS1, x_iR1, x_iR11, x_iR2, x_iR21, x_iE, x_iE1, x_iV, x_iV1, x_iZ, x_iZ1, x_for, x_fo0, x_fo1, x_fo2, x_fo3, x_fo4, x_fo5, x_fo6, x_fo7, x_gT, x_gC, x_gC0, x_try, x_try1, x_try2, x_try3, x_try4, x_try5, x_nx1, x_nx2, x_try6, x_try7, x_nx3, x_nx4, x_app, x_app1, x_app2, x_lc, x_lcE, x_lc0, x_lc1, x_lcG, x_w0, x_w1, vMinL4, vMaxL4, vAll3, vAny3, vAll4, vAny4, x_wh1, x_wh2, x_wh0, x_abs, vI_ii, vI_ib, vI_it, vI_il, vI_is, vI_bb, vI_bi, vI_tt, vI_tl, vI_ti, vI_ll, vI_lt, vI_ss, vEqB, vNeB, x_ta, x_ta1, x_ta2, x_ta3, x_ta4, x_ta5, x_is, nc_0, nc_1, nc_2, nc_3, nc_4, nc_5, nc_6, nc_7, nc_8, nc_9, nc_10, nc_11, vMax2, vMin2, vIsN0, vIsN1, vNotN0, vNotN1, vIsN2, vNotN2, x_lo, x_lo1, x_lo2, vAll2, vAny2, x_sl, x_sl1, x_sl2, x_pn, x_ps, x_ps1, x_cutL, x_cutC, vEqS, vNeS, x_fz_obj, x_fr_obj, x_make, x_meth, x_meth2, x_meth3, x_isO, x_isO1, x_cat, x_cat1, x_methZ, x_methZ2, x_methZ3, x_callZ, x_callZ1, x_lend1, x_lend2, x_cl_int, x_cl_bl, x_cl_str, x_cl_non, x_cl_tup, x_cl0, x_cl1, x_cl_lst, x_setIx, x_setIx1, x_setIx2, x_callI, x_callI1, x_callI2, x_callI3, x_take0, x_take1, x_take2, x_put0, x_put1, x_cFI, x_cRI1, x_cRI2, x_outR, x_outR1, x_out1, x_out2, x_par, x_par1, x_sort, x_sort1, x_sort2, x_io2, x_io4, vIsB, x_pop, x_lr, x_lr1, x_clr, x_clr1, x_clrE, x_clrE1, x_pop1, x_pop2, x_ins, x_ins1, x_ins2, List.all_cons, List.all_nil, Option.isSome_some, Option.map_some, List.getD_cons_zero, List.getD_cons_succ, List.set_cons_zero, List.set_cons_succ, List.map_cons, List.map_nil, List.replicate_zero, List.replicate_succ, List.length_cons, List.length_nil, List.cons_append, List.nil_append, Option.bind_some, if_true, if_false, Bool.false_eq_true, Nat.reduceSub, Nat.reduceAdd, Nat.reduceLeDiff, Nat.reduceLT, vAdd, vSub, vLt, vLe, vGt, vGe, vNeg, vEq, vNe, vEq2, vNe2, vMod, vDiv, vMul, vPow, Int.reduceToNat, vIx0, vIx1, vLenT, vLenC, vLenL, reduceIte, decide_true, decide_false, Bool.not_true, Bool.not_false, beq_self_eq_true, Bool.and_true, Bool.true_and, Bool.and_self, Bool.and_false, Bool.false_and, h0, h1, ha, hb, e]
def spD (p : Int × Int) : D := .tup [.int p.1, .int p.2]
structure SpB (p : Int × Int) : Prop where
  le : p.1 ≤ p.2
  lo : -999999999999999 ≤ p.1
  hi : p.2 ≤ 999999999999999
theorem side_ok (c o : Int) : ∃ p, f__law_side [.int c, .int o] = .ok (spD p) ∧ SpB p := by
  have fin : ∀ (l w : Int), -500000000000000 ≤ l → l ≤ 500000000000000 → 0 ≤ w → w ≤ 100000000000000 → ∃ p, CR.ok (.tup [.int l, .int (l + w)]) = CR.ok (spD p) ∧ SpB p := fun l w l0 l1 w0 w1 =>
    ⟨(l, l + w), rfl, by show l ≤ l + w; omega, by show _ ≤ l; omega, by show l + w ≤ _; omega⟩
  cases h1 : (c % 4 == 1) <;> cases h2 : (o % 4 == 1) <;> cases h3 : (o % 4 == 2) <;> simp (disch := decide) only [f__law_side, m__law_side, x_seq, x_seq1, x_seq2, x_seq3, x_seq4, x_seq5, x_seq6, x_nil, x_if, x_if1, x_if2, x_if3, x_ret, x_ret1, x_ret2, x_ret3, x_retN, x_asg, x_asg1, x_asg2, x_asg3, x_asg4, x_asg5, x_gN, x_drop, x_drop1, x_drop2, x_bk, x_ct, x_raise, x_tZ, x_tZ1, x_tZ2, x_tE, x_tE1, x_tE2, x_tE3, x_tAnd, x_tAnd1, x_tAnd2, x_tAnd3, x_tOr, x_tOr1, x_tOr2, x_tOr3, x_tNot, x_tNot1, x_tNot2, x_tNot3, x_tTrue, x_z2, x_z21, x_z1, x_z11, x_zC, x_zC1, x_za, x_za1, x_za0, x_zV, x_zK, x_ch, x_ch1, x_ch2, x_eZ, x_eZ1, x_eZ2, x_eV, x_eV1, x_eM, x_eM1, x_b1, x_b2, x_b3, x_s1, x_s2, x_s3, x_oO, x_oO2, x_e2, x_e1, x_eC, x_aN, x_aC, x_tup, x_lst, x_call, x_oC1, x_oC2, x_call0, x_call01, x_eAnd, x_eAnd1, x_eOr, x_eOr1, x_eNot, x_eNot1, x_eIf, x_eIf1, x_fz_int, x_fr_int, x_fz_bl, x_fr_bl, x_fz_str, x_fr_str, x_fz_ty, x_fr_ty, x_fz_tup, x_fr_tup, x_fz_cst, x_fr_cst, x_fz_lst_false, x_fr_lst_false, x_fz_non, x_fr_non, x_fz_lt, x_fr_lt, x_fL0, x_fL1, x_cF, x_cR1, x_cR2, x_cR3, x_iL, x_iL1, x_iT, x_iT1, x_iS, x_iS1, x_iR1, x_iR11, x_iR2, x_iR21, x_iE, x_iE1, x_iV, x_iV1, x_iZ, x_iZ1, x_for, x_fo0, x_fo1, x_fo2, x_fo3, x_fo4, x_fo5, x_fo6, x_fo7, x_gT, x_gC, x_gC0, x_try, x_try1, x_try2, x_try3, x_try4, x_try5, x_nx1, x_nx2, x_try6, x_try7, x_nx3, x_nx4, x_app, x_app1, x_app2, x_lc, x_lcE, x_lc0, x_lc1, x_lcG, x_w0, x_w1, vMinL4, vMaxL4, vAll3, vAny3, vAll4, vAny4, x_wh1, x_wh2, x_wh0, x_abs, vI_ii, vI_ib, vI_it, vI_il, vI_is, vI_bb, vI_bi, vI_tt, vI_tl, vI_ti, vI_ll, vI_lt, vI_ss, vEqB, vNeB, x_ta, x_ta1, x_ta2, x_ta3, x_ta4, x_ta5, x_is, nc_0, nc_1, nc_2, nc_3, nc_4, nc_5, nc_6, nc_7, nc_8, nc_9, nc_10, nc_11, vMax2, vMin2, vIsN0, vIsN1, vNotN0, vNotN1, vIsN2, vNotN2, x_lo, x_lo1, x_lo2, vAll2, vAny2, x_sl, x_sl1, x_sl2, x_pn, x_ps, x_ps1, x_cutL, x_cutC, vEqS, vNeS, x_fz_obj, x_fr_obj, x_make, x_meth, x_meth2, x_meth3, x_isO, x_isO1, x_cat, x_cat1, x_methZ, x_methZ2, x_methZ3, x_callZ, x_callZ1, x_lend1, x_lend2, x_cl_int, x_cl_bl, x_cl_str, x_cl_non, x_cl_tup, x_cl0, x_cl1, x_cl_lst, x_setIx, x_setIx1, x_setIx2, x_callI, x_callI1, x_callI2, x_callI3, x_take0, x_take1, x_take2, x_put0, x_put1, x_cFI, x_cRI1, x_cRI2, x_outR, x_outR1, x_out1, x_out2, x_par, x_par1, x_sort, x_sort1, x_sort2, x_io2, x_io4, vIsB, x_pop, x_lr, x_lr1, x_clr, x_clr1, x_clrE, x_clrE1, x_pop1, x_pop2, x_ins, x_ins1, x_ins2, List.all_cons, List.all_nil, Option.isSome_some, Option.map_some, List.getD_cons_zero, List.getD_cons_succ, List.set_cons_zero, List.set_cons_succ, List.map_cons, List.map_nil, List.replicate_zero, List.replicate_succ, List.length_cons, List.length_nil, List.cons_append, List.nil_append, Option.bind_some, if_true, if_false, Bool.false_eq_true, Nat.reduceSub, Nat.reduceAdd, Nat.reduceLeDiff, Nat.reduceLT, vAdd, vSub, vLt, vLe, vGt, vGe, vNeg, vEq, vNe, vEq2, vNe2, vMod, vDiv, vMul, vPow, Int.reduceToNat, vIx0, vIx1, vLenT, vLenC, vLenL, reduceIte, decide_true, decide_false, Bool.not_true, Bool.not_false, beq_self_eq_true, Bool.and_true, Bool.true_and, Bool.and_self, Bool.and_false, Bool.false_and, h1, h2, h3] <;> exact fin _ _ (by omega) (by omega) (by omega) (by omega)
inductive Nd where
  | num (t b : Int) | unk (j : Int) | pow (i k : Int) | plus (i j : Int) | minus (i j : Int) | times (i j : Int)
def Nd.w : Nd → PySem.Str
  | .num _ _ => "number" | .unk _ => "unknown" | .pow _ _ => "power" | .plus _ _ => "plus" | .minus _ _ => "minus" | .times _ _ => "times"
def Nd.d : Nd → D
  | .num t b => .tup [.str "number", .int t, .int b]
  | .unk j => .tup [.str "unknown", .int j]
  | .pow i k => .tup [.str "power", .int i, .int k]
  | .plus i j => .tup [.str "plus", .int i, .int j]
  | .minus i j => .tup [.str "minus", .int i, .int j]
  | .times i j => .tup [.str "times", .int i, .int j]
def Nd.o : Nd → D
  | .num t b => .obj false "Number" ["top", "bottom"] [.int t, .int b]
  | .unk j => .obj false "Unknown" ["place"] [.int j]
  | .pow i k => .obj false "Power" ["one", "many"] [.int i, .int k]
  | .plus i j => .obj false "Plus" ["one", "other"] [.int i, .int j]
  | .minus i j => .obj false "Minus" ["one", "other"] [.int i, .int j]
  | .times i j => .obj false "Times" ["one", "other"] [.int i, .int j]
def Nd.B (size many : Int) : Nd → Prop
  | .num t b => 1 ≤ b ∧ Nat.gcd t.natAbs b.natAbs = 1 ∧ t.natAbs ≤ 999999999 ∧ b.natAbs ≤ 999999999
  | .unk j => 0 ≤ j ∧ j < many
  | .pow i k => 0 ≤ i ∧ i < size ∧ 2 ≤ k ∧ k ≤ 6
  | .plus i j => 0 ≤ i ∧ i < size ∧ 0 ≤ j ∧ j < size
  | .minus i j => 0 ≤ i ∧ i < size ∧ 0 ≤ j ∧ j < size
  | .times i j => 0 ≤ i ∧ i < size ∧ 0 ≤ j ∧ j < size
theorem vIxT2 (a b c : D) : gIx (.tup [a, b, c]) (.int 2) = some c := vIxT [a, b, c] 2
theorem Nd.fz (n : Nd) : isFz n.d = true := by cases n <;> rfl
theorem Nd.fr (n : Nd) : freeze n.d = n.d := by cases n <;> rfl
theorem Nd.fzo (n : Nd) : isFz n.o = true := by cases n <;> rfl
theorem Nd.fro (n : Nd) : freeze n.o = n.o := by cases n <;> rfl
theorem Nd.ix0 (n : Nd) : gIx n.d (.int 0) = some (.str n.w) := by cases n <;> exact vIx0 _ _
theorem Nd.ok (n : Nd) : Bn.Ok 1 n.d := by
  have k1 : PySem.PyData.strOk "number" = true := by decide +kernel
  have k2 : PySem.PyData.strOk "unknown" = true := by decide +kernel
  have k3 : PySem.PyData.strOk "power" = true := by decide +kernel
  have k4 : PySem.PyData.strOk "plus" = true := by decide +kernel
  have k5 : PySem.PyData.strOk "minus" = true := by decide +kernel
  have k6 : PySem.PyData.strOk "times" = true := by decide +kernel
  cases n <;> refine ok_tup fun x hx => ?_ <;> simp only [List.mem_cons, List.not_mem_nil, or_false] at hx
  · rcases hx with rfl | rfl | rfl
    · exact ok_str k1
    · exact ok_int _
    · exact ok_int _
  · rcases hx with rfl | rfl
    · exact ok_str k2
    · exact ok_int _
  · rcases hx with rfl | rfl | rfl
    · exact ok_str k3
    · exact ok_int _
    · exact ok_int _
  · rcases hx with rfl | rfl | rfl
    · exact ok_str k4
    · exact ok_int _
    · exact ok_int _
  · rcases hx with rfl | rfl | rfl
    · exact ok_str k5
    · exact ok_int _
    · exact ok_int _
  · rcases hx with rfl | rfl | rfl
    · exact ok_str k6
    · exact ok_int _
    · exact ok_int _
theorem nds_Ok (ns : List Nd) (b : Bool) : Bn.Ok 2 (.lst b (ns.map Nd.d)) := ok_lst fun d hd => by
  obtain ⟨n, _, rfl⟩ := List.mem_map.mp hd
  exact n.ok
theorem nds_fz (ns : List Nd) : freezeL (ns.map Nd.d) = ns.map Nd.d := fz_map (fun n => n.fr) ns
theorem we_number_number : gEq (.str "number") (.str "number") = some (.bl true) := vEqS (by decide +kernel) (by decide +kernel)
theorem we_number_unknown : gEq (.str "number") (.str "unknown") = some (.bl false) := vEqS (by decide +kernel) (by decide +kernel)
theorem we_number_power : gEq (.str "number") (.str "power") = some (.bl false) := vEqS (by decide +kernel) (by decide +kernel)
theorem we_number_plus : gEq (.str "number") (.str "plus") = some (.bl false) := vEqS (by decide +kernel) (by decide +kernel)
theorem we_number_minus : gEq (.str "number") (.str "minus") = some (.bl false) := vEqS (by decide +kernel) (by decide +kernel)
theorem we_number_times : gEq (.str "number") (.str "times") = some (.bl false) := vEqS (by decide +kernel) (by decide +kernel)
theorem we_unknown_number : gEq (.str "unknown") (.str "number") = some (.bl false) := vEqS (by decide +kernel) (by decide +kernel)
theorem we_unknown_unknown : gEq (.str "unknown") (.str "unknown") = some (.bl true) := vEqS (by decide +kernel) (by decide +kernel)
theorem we_unknown_power : gEq (.str "unknown") (.str "power") = some (.bl false) := vEqS (by decide +kernel) (by decide +kernel)
theorem we_unknown_plus : gEq (.str "unknown") (.str "plus") = some (.bl false) := vEqS (by decide +kernel) (by decide +kernel)
theorem we_unknown_minus : gEq (.str "unknown") (.str "minus") = some (.bl false) := vEqS (by decide +kernel) (by decide +kernel)
theorem we_unknown_times : gEq (.str "unknown") (.str "times") = some (.bl false) := vEqS (by decide +kernel) (by decide +kernel)
theorem we_power_number : gEq (.str "power") (.str "number") = some (.bl false) := vEqS (by decide +kernel) (by decide +kernel)
theorem we_power_unknown : gEq (.str "power") (.str "unknown") = some (.bl false) := vEqS (by decide +kernel) (by decide +kernel)
theorem we_power_power : gEq (.str "power") (.str "power") = some (.bl true) := vEqS (by decide +kernel) (by decide +kernel)
theorem we_power_plus : gEq (.str "power") (.str "plus") = some (.bl false) := vEqS (by decide +kernel) (by decide +kernel)
theorem we_power_minus : gEq (.str "power") (.str "minus") = some (.bl false) := vEqS (by decide +kernel) (by decide +kernel)
theorem we_power_times : gEq (.str "power") (.str "times") = some (.bl false) := vEqS (by decide +kernel) (by decide +kernel)
theorem we_plus_number : gEq (.str "plus") (.str "number") = some (.bl false) := vEqS (by decide +kernel) (by decide +kernel)
theorem we_plus_unknown : gEq (.str "plus") (.str "unknown") = some (.bl false) := vEqS (by decide +kernel) (by decide +kernel)
theorem we_plus_power : gEq (.str "plus") (.str "power") = some (.bl false) := vEqS (by decide +kernel) (by decide +kernel)
theorem we_plus_plus : gEq (.str "plus") (.str "plus") = some (.bl true) := vEqS (by decide +kernel) (by decide +kernel)
theorem we_plus_minus : gEq (.str "plus") (.str "minus") = some (.bl false) := vEqS (by decide +kernel) (by decide +kernel)
theorem we_plus_times : gEq (.str "plus") (.str "times") = some (.bl false) := vEqS (by decide +kernel) (by decide +kernel)
theorem we_minus_number : gEq (.str "minus") (.str "number") = some (.bl false) := vEqS (by decide +kernel) (by decide +kernel)
theorem we_minus_unknown : gEq (.str "minus") (.str "unknown") = some (.bl false) := vEqS (by decide +kernel) (by decide +kernel)
theorem we_minus_power : gEq (.str "minus") (.str "power") = some (.bl false) := vEqS (by decide +kernel) (by decide +kernel)
theorem we_minus_plus : gEq (.str "minus") (.str "plus") = some (.bl false) := vEqS (by decide +kernel) (by decide +kernel)
theorem we_minus_minus : gEq (.str "minus") (.str "minus") = some (.bl true) := vEqS (by decide +kernel) (by decide +kernel)
theorem we_minus_times : gEq (.str "minus") (.str "times") = some (.bl false) := vEqS (by decide +kernel) (by decide +kernel)
theorem we_times_number : gEq (.str "times") (.str "number") = some (.bl false) := vEqS (by decide +kernel) (by decide +kernel)
theorem we_times_unknown : gEq (.str "times") (.str "unknown") = some (.bl false) := vEqS (by decide +kernel) (by decide +kernel)
theorem we_times_power : gEq (.str "times") (.str "power") = some (.bl false) := vEqS (by decide +kernel) (by decide +kernel)
theorem we_times_plus : gEq (.str "times") (.str "plus") = some (.bl false) := vEqS (by decide +kernel) (by decide +kernel)
theorem we_times_minus : gEq (.str "times") (.str "minus") = some (.bl false) := vEqS (by decide +kernel) (by decide +kernel)
theorem we_times_times : gEq (.str "times") (.str "times") = some (.bl true) := vEqS (by decide +kernel) (by decide +kernel)
theorem kind_ok (n : Nd) : f_kind_of [n.d] = .ok n.o := by
  cases n <;> simp (disch := decide) only [Nd.d, Nd.o, vIxT2, f_kind_of, m_kind_of, x_seq, x_seq1, x_seq2, x_seq3, x_seq4, x_seq5, x_seq6, x_nil, x_if, x_if1, x_if2, x_if3, x_ret, x_ret1, x_ret2, x_ret3, x_retN, x_asg, x_asg1, x_asg2, x_asg3, x_asg4, x_asg5, x_gN, x_drop, x_drop1, x_drop2, x_bk, x_ct, x_raise, x_tZ, x_tZ1, x_tZ2, x_tE, x_tE1, x_tE2, x_tE3, x_tAnd, x_tAnd1, x_tAnd2, x_tAnd3, x_tOr, x_tOr1, x_tOr2, x_tOr3, x_tNot, x_tNot1, x_tNot2, x_tNot3, x_tTrue, x_z2, x_z21, x_z1, x_z11, x_zC, x_zC1, x_za, x_za1, x_za0, x_zV, x_zK, x_ch, x_ch1, x_ch2, x_eZ, x_eZ1, x_eZ2, x_eV, x_eV1, x_eM, x_eM1, x_b1, x_b2, x_b3, x_s1, x_s2, x_s3, x_oO, x_oO2, x_e2, x_e1, x_eC, x_aN, x_aC, x_tup, x_lst, x_call, x_oC1, x_oC2, x_call0, x_call01, x_eAnd, x_eAnd1, x_eOr, x_eOr1, x_eNot, x_eNot1, x_eIf, x_eIf1, x_fz_int, x_fr_int, x_fz_bl, x_fr_bl, x_fz_str, x_fr_str, x_fz_ty, x_fr_ty, x_fz_tup, x_fr_tup, x_fz_cst, x_fr_cst, x_fz_lst_false, x_fr_lst_false, x_fz_non, x_fr_non, x_fz_lt, x_fr_lt, x_fL0, x_fL1, x_cF, x_cR1, x_cR2, x_cR3, x_iL, x_iL1, x_iT, x_iT1, x_iS, x_iS1, x_iR1, x_iR11, x_iR2, x_iR21, x_iE, x_iE1, x_iV, x_iV1, x_iZ, x_iZ1, x_for, x_fo0, x_fo1, x_fo2, x_fo3, x_fo4, x_fo5, x_fo6, x_fo7, x_gT, x_gC, x_gC0, x_try, x_try1, x_try2, x_try3, x_try4, x_try5, x_nx1, x_nx2, x_try6, x_try7, x_nx3, x_nx4, x_app, x_app1, x_app2, x_lc, x_lcE, x_lc0, x_lc1, x_lcG, x_w0, x_w1, vMinL4, vMaxL4, vAll3, vAny3, vAll4, vAny4, x_wh1, x_wh2, x_wh0, x_abs, vI_ii, vI_ib, vI_it, vI_il, vI_is, vI_bb, vI_bi, vI_tt, vI_tl, vI_ti, vI_ll, vI_lt, vI_ss, vEqB, vNeB, x_ta, x_ta1, x_ta2, x_ta3, x_ta4, x_ta5, x_is, nc_0, nc_1, nc_2, nc_3, nc_4, nc_5, nc_6, nc_7, nc_8, nc_9, nc_10, nc_11, vMax2, vMin2, vIsN0, vIsN1, vNotN0, vNotN1, vIsN2, vNotN2, x_lo, x_lo1, x_lo2, vAll2, vAny2, x_sl, x_sl1, x_sl2, x_pn, x_ps, x_ps1, x_cutL, x_cutC, vEqS, vNeS, x_fz_obj, x_fr_obj, x_make, x_meth, x_meth2, x_meth3, x_isO, x_isO1, x_cat, x_cat1, x_methZ, x_methZ2, x_methZ3, x_callZ, x_callZ1, x_lend1, x_lend2, x_cl_int, x_cl_bl, x_cl_str, x_cl_non, x_cl_tup, x_cl0, x_cl1, x_cl_lst, x_setIx, x_setIx1, x_setIx2, x_callI, x_callI1, x_callI2, x_callI3, x_take0, x_take1, x_take2, x_put0, x_put1, x_cFI, x_cRI1, x_cRI2, x_outR, x_outR1, x_out1, x_out2, x_par, x_par1, x_sort, x_sort1, x_sort2, x_io2, x_io4, vIsB, x_pop, x_lr, x_lr1, x_clr, x_clr1, x_clrE, x_clrE1, x_pop1, x_pop2, x_ins, x_ins1, x_ins2, List.all_cons, List.all_nil, Option.isSome_some, Option.map_some, List.getD_cons_zero, List.getD_cons_succ, List.set_cons_zero, List.set_cons_succ, List.map_cons, List.map_nil, List.replicate_zero, List.replicate_succ, List.length_cons, List.length_nil, List.cons_append, List.nil_append, Option.bind_some, if_true, if_false, Bool.false_eq_true, Nat.reduceSub, Nat.reduceAdd, Nat.reduceLeDiff, Nat.reduceLT, vAdd, vSub, vLt, vLe, vGt, vGe, vNeg, vEq, vNe, vEq2, vNe2, vMod, vDiv, vMul, vPow, Int.reduceToNat, vIx0, vIx1, vLenT, vLenC, vLenL, reduceIte, decide_true, decide_false, Bool.not_true, Bool.not_false, beq_self_eq_true, Bool.and_true, Bool.true_and, Bool.and_self, Bool.and_false, Bool.false_and, we_number_number, we_number_unknown, we_number_power, we_number_plus, we_number_minus, we_number_times, we_unknown_number, we_unknown_unknown, we_unknown_power, we_unknown_plus, we_unknown_minus, we_unknown_times, we_power_number, we_power_unknown, we_power_power, we_power_plus, we_power_minus, we_power_times, we_plus_number, we_plus_unknown, we_plus_power, we_plus_plus, we_plus_minus, we_plus_times, we_minus_number, we_minus_unknown, we_minus_power, we_minus_plus, we_minus_minus, we_minus_times, we_times_number, we_times_unknown, we_times_power, we_times_plus, we_times_minus, we_times_times]
/-- a node's weight over the weights ahead -/
def wt (ws : List Int) : Nd → Int
  | .num _ _ => 1 | .unk _ => 1 | .pow i k => k * ws.getD i.toNat 0
  | .plus i j => ws.getD i.toNat 0 + ws.getD j.toNat 0
  | .minus i j => ws.getD i.toNat 0 + ws.getD j.toNat 0
  | .times i j => ws.getD i.toNat 0 + ws.getD j.toNat 0
structure Net (M : Int) (ns : List Nd) (ws : List Int) : Prop where
  len : ns.length = ws.length
  nd : ∀ (k : Nat) (n : Nd), ns[k]? = some n → n.B k M ∧ ws[k]? = some (wt ws n) ∧ 1 ≤ wt ws n ∧ wt ws n ≤ 16
theorem net_nil (M : Int) : Net M [] [] := ⟨rfl, fun k n h => by simp at h⟩
theorem Net.at {M : Int} {ns : List Nd} {ws : List Int} (h : Net M ns ws) {i : Int} (i0 : 0 ≤ i) (i1 : i < ns.length) : 1 ≤ ws.getD i.toNat 0 ∧ ws.getD i.toNat 0 ≤ 16 := by
  have hk : i.toNat < ns.length := by omega
  obtain ⟨_, e, h1, h2⟩ := h.nd i.toNat _ (List.getElem?_eq_getElem hk)
  rw [List.getD_eq_getElem?_getD, e]
  exact ⟨h1, h2⟩
theorem getD_app {ws : List Int} {w : Int} {i : Nat} (h : i < ws.length) : (ws ++ [w]).getD i 0 = ws.getD i 0 := by
  rw [List.getD_eq_getElem?_getD, List.getD_eq_getElem?_getD, List.getElem?_append_left h]
theorem wt_app {M : Int} {ws : List Int} {w : Int} {n : Nd} {s : Nat} (h : n.B s M) (hs : s ≤ ws.length) : wt (ws ++ [w]) n = wt ws n := by
  cases n with
  | num => rfl
  | unk => rfl
  | pow i k => obtain ⟨h1, h2, _⟩ := h; simp only [wt]; rw [getD_app (by omega)]
  | plus i j => obtain ⟨h1, h2, h3, h4⟩ := h; simp only [wt]; rw [getD_app (by omega), getD_app (by omega)]
  | minus i j => obtain ⟨h1, h2, h3, h4⟩ := h; simp only [wt]; rw [getD_app (by omega), getD_app (by omega)]
  | times i j => obtain ⟨h1, h2, h3, h4⟩ := h; simp only [wt]; rw [getD_app (by omega), getD_app (by omega)]
theorem wt_pos {M : Int} {ns : List Nd} {ws : List Int} (h : Net M ns ws) {n : Nd} (hb : n.B ns.length M) : 1 ≤ wt ws n := by
  cases n with
  | num => exact Int.le_refl 1
  | unk => exact Int.le_refl 1
  | pow i k =>
    obtain ⟨h1, h2, h3, h4⟩ := hb
    have := (h.at h1 h2).1
    show 1 ≤ k * _
    have := Int.mul_le_mul_of_nonneg_left this (show 0 ≤ k by omega)
    omega
  | plus i j => obtain ⟨h1, h2, h3, h4⟩ := hb; have := (h.at h1 h2).1; have := (h.at h3 h4).1; show 1 ≤ _ + _; omega
  | minus i j => obtain ⟨h1, h2, h3, h4⟩ := hb; have := (h.at h1 h2).1; have := (h.at h3 h4).1; show 1 ≤ _ + _; omega
  | times i j => obtain ⟨h1, h2, h3, h4⟩ := hb; have := (h.at h1 h2).1; have := (h.at h3 h4).1; show 1 ≤ _ + _; omega
theorem Net.app {M : Int} {ns : List Nd} {ws : List Int} (h : Net M ns ws) {n : Nd} (hb : n.B ns.length M) (hw : wt ws n ≤ 16) : Net M (ns ++ [n]) (ws ++ [wt ws n]) := by
  refine ⟨by simp [h.len], fun k m hm => ?_⟩
  by_cases hk : k < ns.length
  · rw [List.getElem?_append_left hk] at hm
    obtain ⟨h1, h2, h3, h4⟩ := h.nd k m hm
    rw [wt_app h1 (by rw [← h.len]; omega), List.getElem?_append_left (by rw [← h.len]; exact hk)]
    exact ⟨h1, h2, h3, h4⟩
  · have e : k = ns.length := by
      have := (List.getElem?_eq_some_iff.mp hm).1
      simp at this; omega
    subst e
    have e2 : m = n := by simpa using hm.symm
    subst e2
    rw [wt_app hb (by rw [← h.len]; exact Nat.le_refl _)]
    refine ⟨hb, ?_, wt_pos h hb, hw⟩
    rw [h.len]; simp
theorem ix_ws {ws : List Int} {i : Int} (h0 : 0 ≤ i) (h1 : i < ws.length) (b : Bool) : gIx (.lst b (ws.map D.int)) (.int i) = some (.int (ws.getD i.toNat 0)) := by
  obtain ⟨k, rfl⟩ : ∃ k : Nat, i = k := ⟨i.toNat, by omega⟩
  have hk : k < ws.length := by omega
  rw [vIxL, List.getElem?_map, List.getElem?_eq_getElem hk, Int.toNat_natCast, List.getD_eq_getElem?_getD, List.getElem?_eq_getElem hk]
  rfl
theorem findP_any {d : PySem.PyData} : ∀ {ds : List PySem.PyData} {k : Nat}, (ds.any fun z => PySem.PyData.eqv z d) = true → ∃ j, findP d ds k = some j
  | [], _, h => by simp at h
  | z :: r, k, h => by
    unfold findP
    by_cases q : PySem.PyData.eqv z d = true
    · rw [if_pos q]; exact ⟨k, rfl⟩
    · rw [if_neg q]
      rw [List.any_cons] at h
      exact findP_any (by simpa [q] using h)
theorem put_ok {M : Int} {ns : List Nd} {ws : List Int} (hN : Net M ns ws) {n : Nd} (hn : n.B ns.length M) {w : Int} (hw : wt ws n = w) (w16 : w ≤ 16) (nl : ns.length ≤ 1000) :
    ∃ ns' ws' r, f__law_put [.lst true (ns.map Nd.d), .lst true (ws.map D.int), n.d, .int w] = .ok (.int r) [.lst true (List.map Nd.d ns'), .lst true (List.map D.int ws')] ∧ Net M ns' ws' ∧ ns.length ≤ ns'.length ∧ ns'.length ≤ ns.length + 1 := by
  have ok1 := n.ok.p
  have ok2 := (nds_Ok ns true).p
  cases hb : (toPs (ns.map Nd.d)).any fun z => PySem.PyData.eqv z (toP n.d) with
  | true =>
    have e1 : gInD false n.d (.lst true (ns.map Nd.d)) = some (.bl true) := by rw [vInD ok1 ok2, hb]
    obtain ⟨j, hj⟩ := findP_any (k := 0) hb
    have e2 := vIndex ok1 ok2 hj
    obtain ⟨jj, hjj⟩ : ∃ jj : Int, ((j : Nat) : Int) = jj := ⟨_, rfl⟩
    rw [hjj] at e2
    refine ⟨ns, ws, jj, ?_, hN, Nat.le_refl _, Nat.le_succ _⟩
    clear hb hj hjj ok1 ok2
    generalize ns.map Nd.d = S at *
    generalize ws.map D.int = Ww at *
    generalize n.d = nd at *
    simp (disch := decide) only [f__law_put, m__law_put, x_seq, x_seq1, x_seq2, x_seq3, x_seq4, x_seq5, x_seq6, x_nil, x_if, x_if1, x_if2, x_if3, x_ret, x_ret1, x_ret2, x_ret3, x_retN, x_asg, x_asg1, x_asg2, x_asg3, x_asg4, x_asg5, x_gN, x_drop, x_drop1, x_drop2, x_bk, x_ct, x_raise, x_tZ, x_tZ1, x_tZ2, x_tE, x_tE1, x_tE2, x_tE3, x_tAnd, x_tAnd1, x_tAnd2, x_tAnd3, x_tOr, x_tOr1, x_tOr2, x_tOr3, x_tNot, x_tNot1, x_tNot2, x_tNot3, x_tTrue, x_z2, x_z21, x_z1, x_z11, x_zC, x_zC1, x_za, x_za1, x_za0, x_zV, x_zK, x_ch, x_ch1, x_ch2, x_eZ, x_eZ1, x_eZ2, x_eV, x_eV1, x_eM, x_eM1, x_b1, x_b2, x_b3, x_s1, x_s2, x_s3, x_oO, x_oO2, x_e2, x_e1, x_eC, x_aN, x_aC, x_tup, x_lst, x_call, x_oC1, x_oC2, x_call0, x_call01, x_eAnd, x_eAnd1, x_eOr, x_eOr1, x_eNot, x_eNot1, x_eIf, x_eIf1, x_fz_int, x_fr_int, x_fz_bl, x_fr_bl, x_fz_str, x_fr_str, x_fz_ty, x_fr_ty, x_fz_tup, x_fr_tup, x_fz_cst, x_fr_cst, x_fz_lst_false, x_fr_lst_false, x_fz_non, x_fr_non, x_fz_lt, x_fr_lt, x_fL0, x_fL1, x_cF, x_cR1, x_cR2, x_cR3, x_iL, x_iL1, x_iT, x_iT1, x_iS, x_iS1, x_iR1, x_iR11, x_iR2, x_iR21, x_iE, x_iE1, x_iV, x_iV1, x_iZ, x_iZ1, x_for, x_fo0, x_fo1, x_fo2, x_fo3, x_fo4, x_fo5, x_fo6, x_fo7, x_gT, x_gC, x_gC0, x_try, x_try1, x_try2, x_try3, x_try4, x_try5, x_nx1, x_nx2, x_try6, x_try7, x_nx3, x_nx4, x_app, x_app1, x_app2, x_lc, x_lcE, x_lc0, x_lc1, x_lcG, x_w0, x_w1, vMinL4, vMaxL4, vAll3, vAny3, vAll4, vAny4, x_wh1, x_wh2, x_wh0, x_abs, vI_ii, vI_ib, vI_it, vI_il, vI_is, vI_bb, vI_bi, vI_tt, vI_tl, vI_ti, vI_ll, vI_lt, vI_ss, vEqB, vNeB, x_ta, x_ta1, x_ta2, x_ta3, x_ta4, x_ta5, x_is, nc_0, nc_1, nc_2, nc_3, nc_4, nc_5, nc_6, nc_7, nc_8, nc_9, nc_10, nc_11, vMax2, vMin2, vIsN0, vIsN1, vNotN0, vNotN1, vIsN2, vNotN2, x_lo, x_lo1, x_lo2, vAll2, vAny2, x_sl, x_sl1, x_sl2, x_pn, x_ps, x_ps1, x_cutL, x_cutC, vEqS, vNeS, x_fz_obj, x_fr_obj, x_make, x_meth, x_meth2, x_meth3, x_isO, x_isO1, x_cat, x_cat1, x_methZ, x_methZ2, x_methZ3, x_callZ, x_callZ1, x_lend1, x_lend2, x_cl_int, x_cl_bl, x_cl_str, x_cl_non, x_cl_tup, x_cl0, x_cl1, x_cl_lst, x_setIx, x_setIx1, x_setIx2, x_callI, x_callI1, x_callI2, x_callI3, x_take0, x_take1, x_take2, x_put0, x_put1, x_cFI, x_cRI1, x_cRI2, x_outR, x_outR1, x_out1, x_out2, x_par, x_par1, x_sort, x_sort1, x_sort2, x_io2, x_io4, vIsB, x_pop, x_lr, x_lr1, x_clr, x_clr1, x_clrE, x_clrE1, x_pop1, x_pop2, x_ins, x_ins1, x_ins2, List.all_cons, List.all_nil, Option.isSome_some, Option.map_some, List.getD_cons_zero, List.getD_cons_succ, List.set_cons_zero, List.set_cons_succ, List.map_cons, List.map_nil, List.replicate_zero, List.replicate_succ, List.length_cons, List.length_nil, List.cons_append, List.nil_append, Option.bind_some, if_true, if_false, Bool.false_eq_true, Nat.reduceSub, Nat.reduceAdd, Nat.reduceLeDiff, Nat.reduceLT, vAdd, vSub, vLt, vLe, vGt, vGe, vNeg, vEq, vNe, vEq2, vNe2, vMod, vDiv, vMul, vPow, Int.reduceToNat, vIx0, vIx1, vLenT, vLenC, vLenL, reduceIte, decide_true, decide_false, Bool.not_true, Bool.not_false, beq_self_eq_true, Bool.and_true, Bool.true_and, Bool.and_self, Bool.and_false, Bool.false_and, e1, e2]
  | false =>
    have e1 : gInD false n.d (.lst true (ns.map Nd.d)) = some (.bl false) := by rw [vInD ok1 ok2, hb]
    have z1 : (ns.map Nd.d).length < 1000000 := by rw [List.length_map]; omega
    have z2 : (ws.map D.int).length < 1000000 := by rw [List.length_map, ← hN.len]; omega
    have a1 : (ns ++ [n]).map Nd.d = ns.map Nd.d ++ [n.d] := by rw [List.map_append]; rfl
    have a2 : (ws ++ [w]).map D.int = ws.map D.int ++ [.int w] := by rw [List.map_append]; rfl
    have app := hN.app hn (by omega)
    rw [hw] at app
    obtain ⟨L, hL⟩ : ∃ L : Int, (((ns.map Nd.d ++ [n.d]).length : Nat) : Int) = L := ⟨_, rfl⟩
    have lL : gLen [.lst true (ns.map Nd.d ++ [n.d])] = some (.int L) := by rw [vLenL, hL]
    refine ⟨ns ++ [n], ws ++ [w], L - 1, ?_, app, by simp, by simp⟩
    rw [a1, a2]
    have fz := n.fz
    have fr := n.fr
    clear hb hL ok1 ok2
    generalize ns.map Nd.d = S at *
    generalize ws.map D.int = Ww at *
    generalize n.d = nd at *
    simp (disch := decide) only [f__law_put, m__law_put, u__law_put_1, u__law_put_2, u__law_put_3, x_seq, x_seq1, x_seq2, x_seq3, x_seq4, x_seq5, x_seq6, x_nil, x_if, x_if1, x_if2, x_if3, x_ret, x_ret1, x_ret2, x_ret3, x_retN, x_asg, x_asg1, x_asg2, x_asg3, x_asg4, x_asg5, x_gN, x_drop, x_drop1, x_drop2, x_bk, x_ct, x_raise, x_tZ, x_tZ1, x_tZ2, x_tE, x_tE1, x_tE2, x_tE3, x_tAnd, x_tAnd1, x_tAnd2, x_tAnd3, x_tOr, x_tOr1, x_tOr2, x_tOr3, x_tNot, x_tNot1, x_tNot2, x_tNot3, x_tTrue, x_z2, x_z21, x_z1, x_z11, x_zC, x_zC1, x_za, x_za1, x_za0, x_zV, x_zK, x_ch, x_ch1, x_ch2, x_eZ, x_eZ1, x_eZ2, x_eV, x_eV1, x_eM, x_eM1, x_b1, x_b2, x_b3, x_s1, x_s2, x_s3, x_oO, x_oO2, x_e2, x_e1, x_eC, x_aN, x_aC, x_tup, x_lst, x_call, x_oC1, x_oC2, x_call0, x_call01, x_eAnd, x_eAnd1, x_eOr, x_eOr1, x_eNot, x_eNot1, x_eIf, x_eIf1, x_fz_int, x_fr_int, x_fz_bl, x_fr_bl, x_fz_str, x_fr_str, x_fz_ty, x_fr_ty, x_fz_tup, x_fr_tup, x_fz_cst, x_fr_cst, x_fz_lst_false, x_fr_lst_false, x_fz_non, x_fr_non, x_fz_lt, x_fr_lt, x_fL0, x_fL1, x_cF, x_cR1, x_cR2, x_cR3, x_iL, x_iL1, x_iT, x_iT1, x_iS, x_iS1, x_iR1, x_iR11, x_iR2, x_iR21, x_iE, x_iE1, x_iV, x_iV1, x_iZ, x_iZ1, x_for, x_fo0, x_fo1, x_fo2, x_fo3, x_fo4, x_fo5, x_fo6, x_fo7, x_gT, x_gC, x_gC0, x_try, x_try1, x_try2, x_try3, x_try4, x_try5, x_nx1, x_nx2, x_try6, x_try7, x_nx3, x_nx4, x_app, x_app1, x_app2, x_lc, x_lcE, x_lc0, x_lc1, x_lcG, x_w0, x_w1, vMinL4, vMaxL4, vAll3, vAny3, vAll4, vAny4, x_wh1, x_wh2, x_wh0, x_abs, vI_ii, vI_ib, vI_it, vI_il, vI_is, vI_bb, vI_bi, vI_tt, vI_tl, vI_ti, vI_ll, vI_lt, vI_ss, vEqB, vNeB, x_ta, x_ta1, x_ta2, x_ta3, x_ta4, x_ta5, x_is, nc_0, nc_1, nc_2, nc_3, nc_4, nc_5, nc_6, nc_7, nc_8, nc_9, nc_10, nc_11, vMax2, vMin2, vIsN0, vIsN1, vNotN0, vNotN1, vIsN2, vNotN2, x_lo, x_lo1, x_lo2, vAll2, vAny2, x_sl, x_sl1, x_sl2, x_pn, x_ps, x_ps1, x_cutL, x_cutC, vEqS, vNeS, x_fz_obj, x_fr_obj, x_make, x_meth, x_meth2, x_meth3, x_isO, x_isO1, x_cat, x_cat1, x_methZ, x_methZ2, x_methZ3, x_callZ, x_callZ1, x_lend1, x_lend2, x_cl_int, x_cl_bl, x_cl_str, x_cl_non, x_cl_tup, x_cl0, x_cl1, x_cl_lst, x_setIx, x_setIx1, x_setIx2, x_callI, x_callI1, x_callI2, x_callI3, x_take0, x_take1, x_take2, x_put0, x_put1, x_cFI, x_cRI1, x_cRI2, x_outR, x_outR1, x_out1, x_out2, x_par, x_par1, x_sort, x_sort1, x_sort2, x_io2, x_io4, vIsB, x_pop, x_lr, x_lr1, x_clr, x_clr1, x_clrE, x_clrE1, x_pop1, x_pop2, x_ins, x_ins1, x_ins2, List.all_cons, List.all_nil, Option.isSome_some, Option.map_some, List.getD_cons_zero, List.getD_cons_succ, List.set_cons_zero, List.set_cons_succ, List.map_cons, List.map_nil, List.replicate_zero, List.replicate_succ, List.length_cons, List.length_nil, List.cons_append, List.nil_append, Option.bind_some, if_true, if_false, Bool.false_eq_true, Nat.reduceSub, Nat.reduceAdd, Nat.reduceLeDiff, Nat.reduceLT, vAdd, vSub, vLt, vLe, vGt, vGe, vNeg, vEq, vNe, vEq2, vNe2, vMod, vDiv, vMul, vPow, Int.reduceToNat, vIx0, vIx1, vLenT, vLenC, vLenL, reduceIte, decide_true, decide_false, Bool.not_true, Bool.not_false, beq_self_eq_true, Bool.and_true, Bool.true_and, Bool.and_self, Bool.and_false, Bool.false_and, e1, fz, fr, z1, z2, lL]
theorem ix_ptm (i : Int) (h : i = 0 ∨ i = 1 ∨ i = 2) : ∃ w : PySem.Str, gIx (.lst true [.str "plus", .str "minus", .str "times"]) (.int i) = some (.str w) ∧ (w = "plus" ∨ w = "minus" ∨ w = "times") := by
  rcases h with rfl | rfl | rfl
  · exact ⟨_, rfl, .inl rfl⟩
  · exact ⟨_, rfl, .inr (.inl rfl)⟩
  · exact ⟨_, rfl, .inr (.inr rfl)⟩
theorem grow_ok {M : Int} {ns : List Nd} {ws : List Int} (hN : Net M ns ws) (n1 : 1 ≤ ns.length) (nl : ns.length ≤ 1000) (c : Int) :
    ∃ ns' ws', f__law_grow [.lst true (ns.map Nd.d), .lst true (ws.map D.int), .int c, .int 16] = .ok .non [.lst true (List.map Nd.d ns'), .lst true (List.map D.int ws')] ∧ Net M ns' ws' ∧ ns.length ≤ ns'.length ∧ ns'.length ≤ ns.length + 1 := by
  obtain ⟨L, hL, L1⟩ : ∃ L : Int, (ns.length : Int) = L ∧ 1 ≤ L := ⟨_, rfl, by omega⟩
  have lS : gLen [.lst true (ns.map Nd.d)] = some (.int L) := by rw [vLenL, List.length_map, hL]
  obtain ⟨i, hi, i0, i1⟩ : ∃ i, c / 6 % 16 % L = i ∧ 0 ≤ i ∧ i < L := ⟨_, rfl, Int.emod_nonneg _ (by omega), Int.emod_lt_of_pos _ (by omega)⟩
  obtain ⟨j, hj, j0, j1⟩ : ∃ j, c / 96 % 16 % L = j ∧ 0 ≤ j ∧ j < L := ⟨_, rfl, Int.emod_nonneg _ (by omega), Int.emod_lt_of_pos _ (by omega)⟩
  have m1 : gMod (.int (c / 6 % 16)) (.int L) = some (.int i) := by rw [vMod (by omega), hi]
  have m2 : gMod (.int (c / 96 % 16)) (.int L) = some (.int j) := by rw [vMod (by omega), hj]
  have x1 := ix_ws (ws := ws) i0 (by rw [← hN.len]; omega) true
  have x2 := ix_ws (ws := ws) j0 (by rw [← hN.len]; omega) true
  have a1 := hN.at i0 (by omega)
  have a2 := hN.at j0 (by omega)
  obtain ⟨wi, hwi⟩ : ∃ w, ws.getD i.toNat 0 = w := ⟨_, rfl⟩
  obtain ⟨wj, hwj⟩ : ∃ w, ws.getD j.toNat 0 = w := ⟨_, rfl⟩
  rw [hwi] at x1 a1
  rw [hwj] at x2 a2
  clear hi hj
  have same : ∃ ns' ws', (CR2.ok D.non [.lst true (ns.map Nd.d), .lst true (ws.map D.int)]) = .ok .non [.lst true (List.map Nd.d ns'), .lst true (List.map D.int ws')] ∧ Net M ns' ws' ∧ ns.length ≤ ns'.length ∧ ns'.length ≤ ns.length + 1 := ⟨ns, ws, rfl, hN, Nat.le_refl _, Nat.le_succ _⟩
  cases h4 : (c % 6 == 4) with
  | true =>
    obtain ⟨p, q, e, q1, gc, pa, qa⟩ := numb_ok (c / 1536)
    obtain ⟨ns', ws', r, ep, k1, k2, k3⟩ := put_ok hN (n := .num p q) ⟨q1, gc, pa, qa⟩ (w := 1) rfl (by decide) nl
    refine ⟨ns', ws', ?_, k1, k2, k3⟩
    clear same k1 k2 k3 hN
    simp only [Nd.d] at ep
    generalize ns.map Nd.d = S at *
    generalize ws.map D.int = Ww at *
    generalize ns'.map Nd.d = S' at *
    generalize ws'.map D.int = W' at *
    simp (disch := decide) only [f__law_grow, m__law_grow, u__law_grow_1, u__law_grow_2, u__law_grow_3, x_seq, x_seq1, x_seq2, x_seq3, x_seq4, x_seq5, x_seq6, x_nil, x_if, x_if1, x_if2, x_if3, x_ret, x_ret1, x_ret2, x_ret3, x_retN, x_asg, x_asg1, x_asg2, x_asg3, x_asg4, x_asg5, x_gN, x_drop, x_drop1, x_drop2, x_bk, x_ct, x_raise, x_tZ, x_tZ1, x_tZ2, x_tE, x_tE1, x_tE2, x_tE3, x_tAnd, x_tAnd1, x_tAnd2, x_tAnd3, x_tOr, x_tOr1, x_tOr2, x_tOr3, x_tNot, x_tNot1, x_tNot2, x_tNot3, x_tTrue, x_z2, x_z21, x_z1, x_z11, x_zC, x_zC1, x_za, x_za1, x_za0, x_zV, x_zK, x_ch, x_ch1, x_ch2, x_eZ, x_eZ1, x_eZ2, x_eV, x_eV1, x_eM, x_eM1, x_b1, x_b2, x_b3, x_s1, x_s2, x_s3, x_oO, x_oO2, x_e2, x_e1, x_eC, x_aN, x_aC, x_tup, x_lst, x_call, x_oC1, x_oC2, x_call0, x_call01, x_eAnd, x_eAnd1, x_eOr, x_eOr1, x_eNot, x_eNot1, x_eIf, x_eIf1, x_fz_int, x_fr_int, x_fz_bl, x_fr_bl, x_fz_str, x_fr_str, x_fz_ty, x_fr_ty, x_fz_tup, x_fr_tup, x_fz_cst, x_fr_cst, x_fz_lst_false, x_fr_lst_false, x_fz_non, x_fr_non, x_fz_lt, x_fr_lt, x_fL0, x_fL1, x_cF, x_cR1, x_cR2, x_cR3, x_iL, x_iL1, x_iT, x_iT1, x_iS, x_iS1, x_iR1, x_iR11, x_iR2, x_iR21, x_iE, x_iE1, x_iV, x_iV1, x_iZ, x_iZ1, x_for, x_fo0, x_fo1, x_fo2, x_fo3, x_fo4, x_fo5, x_fo6, x_fo7, x_gT, x_gC, x_gC0, x_try, x_try1, x_try2, x_try3, x_try4, x_try5, x_nx1, x_nx2, x_try6, x_try7, x_nx3, x_nx4, x_app, x_app1, x_app2, x_lc, x_lcE, x_lc0, x_lc1, x_lcG, x_w0, x_w1, vMinL4, vMaxL4, vAll3, vAny3, vAll4, vAny4, x_wh1, x_wh2, x_wh0, x_abs, vI_ii, vI_ib, vI_it, vI_il, vI_is, vI_bb, vI_bi, vI_tt, vI_tl, vI_ti, vI_ll, vI_lt, vI_ss, vEqB, vNeB, x_ta, x_ta1, x_ta2, x_ta3, x_ta4, x_ta5, x_is, nc_0, nc_1, nc_2, nc_3, nc_4, nc_5, nc_6, nc_7, nc_8, nc_9, nc_10, nc_11, vMax2, vMin2, vIsN0, vIsN1, vNotN0, vNotN1, vIsN2, vNotN2, x_lo, x_lo1, x_lo2, vAll2, vAny2, x_sl, x_sl1, x_sl2, x_pn, x_ps, x_ps1, x_cutL, x_cutC, vEqS, vNeS, x_fz_obj, x_fr_obj, x_make, x_meth, x_meth2, x_meth3, x_isO, x_isO1, x_cat, x_cat1, x_methZ, x_methZ2, x_methZ3, x_callZ, x_callZ1, x_lend1, x_lend2, x_cl_int, x_cl_bl, x_cl_str, x_cl_non, x_cl_tup, x_cl0, x_cl1, x_cl_lst, x_setIx, x_setIx1, x_setIx2, x_callI, x_callI1, x_callI2, x_callI3, x_take0, x_take1, x_take2, x_put0, x_put1, x_cFI, x_cRI1, x_cRI2, x_outR, x_outR1, x_out1, x_out2, x_par, x_par1, x_sort, x_sort1, x_sort2, x_io2, x_io4, vIsB, x_pop, x_lr, x_lr1, x_clr, x_clr1, x_clrE, x_clrE1, x_pop1, x_pop2, x_ins, x_ins1, x_ins2, List.all_cons, List.all_nil, Option.isSome_some, Option.map_some, List.getD_cons_zero, List.getD_cons_succ, List.set_cons_zero, List.set_cons_succ, List.map_cons, List.map_nil, List.replicate_zero, List.replicate_succ, List.length_cons, List.length_nil, List.cons_append, List.nil_append, Option.bind_some, if_true, if_false, Bool.false_eq_true, Nat.reduceSub, Nat.reduceAdd, Nat.reduceLeDiff, Nat.reduceLT, vAdd, vSub, vLt, vLe, vGt, vGe, vNeg, vEq, vNe, vEq2, vNe2, vMod, vDiv, vMul, vPow, Int.reduceToNat, vIx0, vIx1, vLenT, vLenC, vLenL, reduceIte, decide_true, decide_false, Bool.not_true, Bool.not_false, beq_self_eq_true, Bool.and_true, Bool.true_and, Bool.and_self, Bool.and_false, Bool.false_and, lS, m1, m2, x1, x2, h4, e, ep]
  | false =>
    cases h3 : (c % 6 == 3) with
    | true =>
      obtain ⟨k, hk, k2, k6⟩ : ∃ k, 2 + c / 1536 % 5 = k ∧ 2 ≤ k ∧ k ≤ 6 := ⟨_, rfl, by omega, by omega⟩
      have w : L2.CMulW k wi := mulW 10 10 (by omega) (by omega) (by decide)
      obtain ⟨kw, hkw⟩ : ∃ kw, k * wi = kw := ⟨_, rfl⟩
      cases h5 : decide (kw ≤ 16) with
      | true =>
        have h5' := of_decide_eq_true h5
        obtain ⟨ns', ws', r, ep, q1, q2, q3⟩ := put_ok hN (n := .pow i k) ⟨i0, by omega, k2, k6⟩ (w := kw) (by show k * ws.getD i.toNat 0 = kw; rw [hwi, hkw]) h5' nl
        refine ⟨ns', ws', ?_, q1, q2, q3⟩
        clear same q1 q2 q3 hN
        simp only [Nd.d] at ep
        generalize ns.map Nd.d = S at *
        generalize ws.map D.int = Ww at *
        generalize ns'.map Nd.d = S' at *
        generalize ws'.map D.int = W' at *
        simp (disch := decide) only [f__law_grow, m__law_grow, u__law_grow_1, u__law_grow_2, u__law_grow_3, x_seq, x_seq1, x_seq2, x_seq3, x_seq4, x_seq5, x_seq6, x_nil, x_if, x_if1, x_if2, x_if3, x_ret, x_ret1, x_ret2, x_ret3, x_retN, x_asg, x_asg1, x_asg2, x_asg3, x_asg4, x_asg5, x_gN, x_drop, x_drop1, x_drop2, x_bk, x_ct, x_raise, x_tZ, x_tZ1, x_tZ2, x_tE, x_tE1, x_tE2, x_tE3, x_tAnd, x_tAnd1, x_tAnd2, x_tAnd3, x_tOr, x_tOr1, x_tOr2, x_tOr3, x_tNot, x_tNot1, x_tNot2, x_tNot3, x_tTrue, x_z2, x_z21, x_z1, x_z11, x_zC, x_zC1, x_za, x_za1, x_za0, x_zV, x_zK, x_ch, x_ch1, x_ch2, x_eZ, x_eZ1, x_eZ2, x_eV, x_eV1, x_eM, x_eM1, x_b1, x_b2, x_b3, x_s1, x_s2, x_s3, x_oO, x_oO2, x_e2, x_e1, x_eC, x_aN, x_aC, x_tup, x_lst, x_call, x_oC1, x_oC2, x_call0, x_call01, x_eAnd, x_eAnd1, x_eOr, x_eOr1, x_eNot, x_eNot1, x_eIf, x_eIf1, x_fz_int, x_fr_int, x_fz_bl, x_fr_bl, x_fz_str, x_fr_str, x_fz_ty, x_fr_ty, x_fz_tup, x_fr_tup, x_fz_cst, x_fr_cst, x_fz_lst_false, x_fr_lst_false, x_fz_non, x_fr_non, x_fz_lt, x_fr_lt, x_fL0, x_fL1, x_cF, x_cR1, x_cR2, x_cR3, x_iL, x_iL1, x_iT, x_iT1, x_iS, x_iS1, x_iR1, x_iR11, x_iR2, x_iR21, x_iE, x_iE1, x_iV, x_iV1, x_iZ, x_iZ1, x_for, x_fo0, x_fo1, x_fo2, x_fo3, x_fo4, x_fo5, x_fo6, x_fo7, x_gT, x_gC, x_gC0, x_try, x_try1, x_try2, x_try3, x_try4, x_try5, x_nx1, x_nx2, x_try6, x_try7, x_nx3, x_nx4, x_app, x_app1, x_app2, x_lc, x_lcE, x_lc0, x_lc1, x_lcG, x_w0, x_w1, vMinL4, vMaxL4, vAll3, vAny3, vAll4, vAny4, x_wh1, x_wh2, x_wh0, x_abs, vI_ii, vI_ib, vI_it, vI_il, vI_is, vI_bb, vI_bi, vI_tt, vI_tl, vI_ti, vI_ll, vI_lt, vI_ss, vEqB, vNeB, x_ta, x_ta1, x_ta2, x_ta3, x_ta4, x_ta5, x_is, nc_0, nc_1, nc_2, nc_3, nc_4, nc_5, nc_6, nc_7, nc_8, nc_9, nc_10, nc_11, vMax2, vMin2, vIsN0, vIsN1, vNotN0, vNotN1, vIsN2, vNotN2, x_lo, x_lo1, x_lo2, vAll2, vAny2, x_sl, x_sl1, x_sl2, x_pn, x_ps, x_ps1, x_cutL, x_cutC, vEqS, vNeS, x_fz_obj, x_fr_obj, x_make, x_meth, x_meth2, x_meth3, x_isO, x_isO1, x_cat, x_cat1, x_methZ, x_methZ2, x_methZ3, x_callZ, x_callZ1, x_lend1, x_lend2, x_cl_int, x_cl_bl, x_cl_str, x_cl_non, x_cl_tup, x_cl0, x_cl1, x_cl_lst, x_setIx, x_setIx1, x_setIx2, x_callI, x_callI1, x_callI2, x_callI3, x_take0, x_take1, x_take2, x_put0, x_put1, x_cFI, x_cRI1, x_cRI2, x_outR, x_outR1, x_out1, x_out2, x_par, x_par1, x_sort, x_sort1, x_sort2, x_io2, x_io4, vIsB, x_pop, x_lr, x_lr1, x_clr, x_clr1, x_clrE, x_clrE1, x_pop1, x_pop2, x_ins, x_ins1, x_ins2, List.all_cons, List.all_nil, Option.isSome_some, Option.map_some, List.getD_cons_zero, List.getD_cons_succ, List.set_cons_zero, List.set_cons_succ, List.map_cons, List.map_nil, List.replicate_zero, List.replicate_succ, List.length_cons, List.length_nil, List.cons_append, List.nil_append, Option.bind_some, if_true, if_false, Bool.false_eq_true, Nat.reduceSub, Nat.reduceAdd, Nat.reduceLeDiff, Nat.reduceLT, vAdd, vSub, vLt, vLe, vGt, vGe, vNeg, vEq, vNe, vEq2, vNe2, vMod, vDiv, vMul, vPow, Int.reduceToNat, vIx0, vIx1, vLenT, vLenC, vLenL, reduceIte, decide_true, decide_false, Bool.not_true, Bool.not_false, beq_self_eq_true, Bool.and_true, Bool.true_and, Bool.and_self, Bool.and_false, Bool.false_and, lS, m1, m2, x1, x2, h4, h3, hk, vMul w, hkw, h5, ep]
      | false =>
        obtain ⟨ns', ws', ep, k1, k2, k3⟩ := same
        refine ⟨ns', ws', ?_, k1, k2, k3⟩
        rw [← ep]
        clear ep k1 k2 k3 hN
        generalize ns.map Nd.d = S at *
        generalize ws.map D.int = Ww at *
        simp (disch := decide) only [f__law_grow, m__law_grow, u__law_grow_1, u__law_grow_2, u__law_grow_3, x_seq, x_seq1, x_seq2, x_seq3, x_seq4, x_seq5, x_seq6, x_nil, x_if, x_if1, x_if2, x_if3, x_ret, x_ret1, x_ret2, x_ret3, x_retN, x_asg, x_asg1, x_asg2, x_asg3, x_asg4, x_asg5, x_gN, x_drop, x_drop1, x_drop2, x_bk, x_ct, x_raise, x_tZ, x_tZ1, x_tZ2, x_tE, x_tE1, x_tE2, x_tE3, x_tAnd, x_tAnd1, x_tAnd2, x_tAnd3, x_tOr, x_tOr1, x_tOr2, x_tOr3, x_tNot, x_tNot1, x_tNot2, x_tNot3, x_tTrue, x_z2, x_z21, x_z1, x_z11, x_zC, x_zC1, x_za, x_za1, x_za0, x_zV, x_zK, x_ch, x_ch1, x_ch2, x_eZ, x_eZ1, x_eZ2, x_eV, x_eV1, x_eM, x_eM1, x_b1, x_b2, x_b3, x_s1, x_s2, x_s3, x_oO, x_oO2, x_e2, x_e1, x_eC, x_aN, x_aC, x_tup, x_lst, x_call, x_oC1, x_oC2, x_call0, x_call01, x_eAnd, x_eAnd1, x_eOr, x_eOr1, x_eNot, x_eNot1, x_eIf, x_eIf1, x_fz_int, x_fr_int, x_fz_bl, x_fr_bl, x_fz_str, x_fr_str, x_fz_ty, x_fr_ty, x_fz_tup, x_fr_tup, x_fz_cst, x_fr_cst, x_fz_lst_false, x_fr_lst_false, x_fz_non, x_fr_non, x_fz_lt, x_fr_lt, x_fL0, x_fL1, x_cF, x_cR1, x_cR2, x_cR3, x_iL, x_iL1, x_iT, x_iT1, x_iS, x_iS1, x_iR1, x_iR11, x_iR2, x_iR21, x_iE, x_iE1, x_iV, x_iV1, x_iZ, x_iZ1, x_for, x_fo0, x_fo1, x_fo2, x_fo3, x_fo4, x_fo5, x_fo6, x_fo7, x_gT, x_gC, x_gC0, x_try, x_try1, x_try2, x_try3, x_try4, x_try5, x_nx1, x_nx2, x_try6, x_try7, x_nx3, x_nx4, x_app, x_app1, x_app2, x_lc, x_lcE, x_lc0, x_lc1, x_lcG, x_w0, x_w1, vMinL4, vMaxL4, vAll3, vAny3, vAll4, vAny4, x_wh1, x_wh2, x_wh0, x_abs, vI_ii, vI_ib, vI_it, vI_il, vI_is, vI_bb, vI_bi, vI_tt, vI_tl, vI_ti, vI_ll, vI_lt, vI_ss, vEqB, vNeB, x_ta, x_ta1, x_ta2, x_ta3, x_ta4, x_ta5, x_is, nc_0, nc_1, nc_2, nc_3, nc_4, nc_5, nc_6, nc_7, nc_8, nc_9, nc_10, nc_11, vMax2, vMin2, vIsN0, vIsN1, vNotN0, vNotN1, vIsN2, vNotN2, x_lo, x_lo1, x_lo2, vAll2, vAny2, x_sl, x_sl1, x_sl2, x_pn, x_ps, x_ps1, x_cutL, x_cutC, vEqS, vNeS, x_fz_obj, x_fr_obj, x_make, x_meth, x_meth2, x_meth3, x_isO, x_isO1, x_cat, x_cat1, x_methZ, x_methZ2, x_methZ3, x_callZ, x_callZ1, x_lend1, x_lend2, x_cl_int, x_cl_bl, x_cl_str, x_cl_non, x_cl_tup, x_cl0, x_cl1, x_cl_lst, x_setIx, x_setIx1, x_setIx2, x_callI, x_callI1, x_callI2, x_callI3, x_take0, x_take1, x_take2, x_put0, x_put1, x_cFI, x_cRI1, x_cRI2, x_outR, x_outR1, x_out1, x_out2, x_par, x_par1, x_sort, x_sort1, x_sort2, x_io2, x_io4, vIsB, x_pop, x_lr, x_lr1, x_clr, x_clr1, x_clrE, x_clrE1, x_pop1, x_pop2, x_ins, x_ins1, x_ins2, List.all_cons, List.all_nil, Option.isSome_some, Option.map_some, List.getD_cons_zero, List.getD_cons_succ, List.set_cons_zero, List.set_cons_succ, List.map_cons, List.map_nil, List.replicate_zero, List.replicate_succ, List.length_cons, List.length_nil, List.cons_append, List.nil_append, Option.bind_some, if_true, if_false, Bool.false_eq_true, Nat.reduceSub, Nat.reduceAdd, Nat.reduceLeDiff, Nat.reduceLT, vAdd, vSub, vLt, vLe, vGt, vGe, vNeg, vEq, vNe, vEq2, vNe2, vMod, vDiv, vMul, vPow, Int.reduceToNat, vIx0, vIx1, vLenT, vLenC, vLenL, reduceIte, decide_true, decide_false, Bool.not_true, Bool.not_false, beq_self_eq_true, Bool.and_true, Bool.true_and, Bool.and_self, Bool.and_false, Bool.false_and, lS, m1, m2, x1, x2, h4, h3, hk, vMul w, hkw, h5]
    | false =>
      obtain ⟨sw, hsw⟩ : ∃ sw, wi + wj = sw := ⟨_, rfl⟩
      cases h5 : decide (sw ≤ 16) with
      | true =>
        have h5' := of_decide_eq_true h5
        obtain ⟨w, ew, hw⟩ := ix_ptm (c % 6 % 3) (by omega)
        have go : ∀ n : Nd, n.d = .tup [.str w, .int i, .int j] → n.B ns.length M → wt ws n = sw → ∃ ns' ws', f__law_grow [.lst true (ns.map Nd.d), .lst true (ws.map D.int), .int c, .int 16] = .ok .non [.lst true (List.map Nd.d ns'), .lst true (List.map D.int ws')] ∧ Net M ns' ws' ∧ ns.length ≤ ns'.length ∧ ns'.length ≤ ns.length + 1 := fun n hd hB hww => by
          obtain ⟨ns', ws', r, ep, q1, q2, q3⟩ := put_ok hN hB hww h5' nl
          refine ⟨ns', ws', ?_, q1, q2, q3⟩
          clear same q1 q2 q3 hN
          rw [hd] at ep
          generalize ns.map Nd.d = S at *
          generalize ws.map D.int = Ww at *
          generalize ns'.map Nd.d = S' at *
          generalize ws'.map D.int = W' at *
          simp (disch := decide) only [f__law_grow, m__law_grow, u__law_grow_1, u__law_grow_2, u__law_grow_3, x_seq, x_seq1, x_seq2, x_seq3, x_seq4, x_seq5, x_seq6, x_nil, x_if, x_if1, x_if2, x_if3, x_ret, x_ret1, x_ret2, x_ret3, x_retN, x_asg, x_asg1, x_asg2, x_asg3, x_asg4, x_asg5, x_gN, x_drop, x_drop1, x_drop2, x_bk, x_ct, x_raise, x_tZ, x_tZ1, x_tZ2, x_tE, x_tE1, x_tE2, x_tE3, x_tAnd, x_tAnd1, x_tAnd2, x_tAnd3, x_tOr, x_tOr1, x_tOr2, x_tOr3, x_tNot, x_tNot1, x_tNot2, x_tNot3, x_tTrue, x_z2, x_z21, x_z1, x_z11, x_zC, x_zC1, x_za, x_za1, x_za0, x_zV, x_zK, x_ch, x_ch1, x_ch2, x_eZ, x_eZ1, x_eZ2, x_eV, x_eV1, x_eM, x_eM1, x_b1, x_b2, x_b3, x_s1, x_s2, x_s3, x_oO, x_oO2, x_e2, x_e1, x_eC, x_aN, x_aC, x_tup, x_lst, x_call, x_oC1, x_oC2, x_call0, x_call01, x_eAnd, x_eAnd1, x_eOr, x_eOr1, x_eNot, x_eNot1, x_eIf, x_eIf1, x_fz_int, x_fr_int, x_fz_bl, x_fr_bl, x_fz_str, x_fr_str, x_fz_ty, x_fr_ty, x_fz_tup, x_fr_tup, x_fz_cst, x_fr_cst, x_fz_lst_false, x_fr_lst_false, x_fz_non, x_fr_non, x_fz_lt, x_fr_lt, x_fL0, x_fL1, x_cF, x_cR1, x_cR2, x_cR3, x_iL, x_iL1, x_iT, x_iT1, x_iS, x_iS1, x_iR1, x_iR11, x_iR2, x_iR21, x_iE, x_iE1, x_iV, x_iV1, x_iZ, x_iZ1, x_for, x_fo0, x_fo1, x_fo2, x_fo3, x_fo4, x_fo5, x_fo6, x_fo7, x_gT, x_gC, x_gC0, x_try, x_try1, x_try2, x_try3, x_try4, x_try5, x_nx1, x_nx2, x_try6, x_try7, x_nx3, x_nx4, x_app, x_app1, x_app2, x_lc, x_lcE, x_lc0, x_lc1, x_lcG, x_w0, x_w1, vMinL4, vMaxL4, vAll3, vAny3, vAll4, vAny4, x_wh1, x_wh2, x_wh0, x_abs, vI_ii, vI_ib, vI_it, vI_il, vI_is, vI_bb, vI_bi, vI_tt, vI_tl, vI_ti, vI_ll, vI_lt, vI_ss, vEqB, vNeB, x_ta, x_ta1, x_ta2, x_ta3, x_ta4, x_ta5, x_is, nc_0, nc_1, nc_2, nc_3, nc_4, nc_5, nc_6, nc_7, nc_8, nc_9, nc_10, nc_11, vMax2, vMin2, vIsN0, vIsN1, vNotN0, vNotN1, vIsN2, vNotN2, x_lo, x_lo1, x_lo2, vAll2, vAny2, x_sl, x_sl1, x_sl2, x_pn, x_ps, x_ps1, x_cutL, x_cutC, vEqS, vNeS, x_fz_obj, x_fr_obj, x_make, x_meth, x_meth2, x_meth3, x_isO, x_isO1, x_cat, x_cat1, x_methZ, x_methZ2, x_methZ3, x_callZ, x_callZ1, x_lend1, x_lend2, x_cl_int, x_cl_bl, x_cl_str, x_cl_non, x_cl_tup, x_cl0, x_cl1, x_cl_lst, x_setIx, x_setIx1, x_setIx2, x_callI, x_callI1, x_callI2, x_callI3, x_take0, x_take1, x_take2, x_put0, x_put1, x_cFI, x_cRI1, x_cRI2, x_outR, x_outR1, x_out1, x_out2, x_par, x_par1, x_sort, x_sort1, x_sort2, x_io2, x_io4, vIsB, x_pop, x_lr, x_lr1, x_clr, x_clr1, x_clrE, x_clrE1, x_pop1, x_pop2, x_ins, x_ins1, x_ins2, List.all_cons, List.all_nil, Option.isSome_some, Option.map_some, List.getD_cons_zero, List.getD_cons_succ, List.set_cons_zero, List.set_cons_succ, List.map_cons, List.map_nil, List.replicate_zero, List.replicate_succ, List.length_cons, List.length_nil, List.cons_append, List.nil_append, Option.bind_some, if_true, if_false, Bool.false_eq_true, Nat.reduceSub, Nat.reduceAdd, Nat.reduceLeDiff, Nat.reduceLT, vAdd, vSub, vLt, vLe, vGt, vGe, vNeg, vEq, vNe, vEq2, vNe2, vMod, vDiv, vMul, vPow, Int.reduceToNat, vIx0, vIx1, vLenT, vLenC, vLenL, reduceIte, decide_true, decide_false, Bool.not_true, Bool.not_false, beq_self_eq_true, Bool.and_true, Bool.true_and, Bool.and_self, Bool.and_false, Bool.false_and, lS, m1, m2, x1, x2, h4, h3, hsw, h5, ew, ep]
        have hww : ws.getD i.toNat 0 + ws.getD j.toNat 0 = sw := by rw [hwi, hwj, hsw]
        rcases hw with rfl | rfl | rfl
        · exact go (.plus i j) rfl ⟨i0, by omega, j0, by omega⟩ hww
        · exact go (.minus i j) rfl ⟨i0, by omega, j0, by omega⟩ hww
        · exact go (.times i j) rfl ⟨i0, by omega, j0, by omega⟩ hww
      | false =>
        obtain ⟨ns', ws', ep, k1, k2, k3⟩ := same
        refine ⟨ns', ws', ?_, k1, k2, k3⟩
        rw [← ep]
        clear ep k1 k2 k3 hN
        generalize ns.map Nd.d = S at *
        generalize ws.map D.int = Ww at *
        simp (disch := decide) only [f__law_grow, m__law_grow, u__law_grow_1, u__law_grow_2, u__law_grow_3, x_seq, x_seq1, x_seq2, x_seq3, x_seq4, x_seq5, x_seq6, x_nil, x_if, x_if1, x_if2, x_if3, x_ret, x_ret1, x_ret2, x_ret3, x_retN, x_asg, x_asg1, x_asg2, x_asg3, x_asg4, x_asg5, x_gN, x_drop, x_drop1, x_drop2, x_bk, x_ct, x_raise, x_tZ, x_tZ1, x_tZ2, x_tE, x_tE1, x_tE2, x_tE3, x_tAnd, x_tAnd1, x_tAnd2, x_tAnd3, x_tOr, x_tOr1, x_tOr2, x_tOr3, x_tNot, x_tNot1, x_tNot2, x_tNot3, x_tTrue, x_z2, x_z21, x_z1, x_z11, x_zC, x_zC1, x_za, x_za1, x_za0, x_zV, x_zK, x_ch, x_ch1, x_ch2, x_eZ, x_eZ1, x_eZ2, x_eV, x_eV1, x_eM, x_eM1, x_b1, x_b2, x_b3, x_s1, x_s2, x_s3, x_oO, x_oO2, x_e2, x_e1, x_eC, x_aN, x_aC, x_tup, x_lst, x_call, x_oC1, x_oC2, x_call0, x_call01, x_eAnd, x_eAnd1, x_eOr, x_eOr1, x_eNot, x_eNot1, x_eIf, x_eIf1, x_fz_int, x_fr_int, x_fz_bl, x_fr_bl, x_fz_str, x_fr_str, x_fz_ty, x_fr_ty, x_fz_tup, x_fr_tup, x_fz_cst, x_fr_cst, x_fz_lst_false, x_fr_lst_false, x_fz_non, x_fr_non, x_fz_lt, x_fr_lt, x_fL0, x_fL1, x_cF, x_cR1, x_cR2, x_cR3, x_iL, x_iL1, x_iT, x_iT1, x_iS, x_iS1, x_iR1, x_iR11, x_iR2, x_iR21, x_iE, x_iE1, x_iV, x_iV1, x_iZ, x_iZ1, x_for, x_fo0, x_fo1, x_fo2, x_fo3, x_fo4, x_fo5, x_fo6, x_fo7, x_gT, x_gC, x_gC0, x_try, x_try1, x_try2, x_try3, x_try4, x_try5, x_nx1, x_nx2, x_try6, x_try7, x_nx3, x_nx4, x_app, x_app1, x_app2, x_lc, x_lcE, x_lc0, x_lc1, x_lcG, x_w0, x_w1, vMinL4, vMaxL4, vAll3, vAny3, vAll4, vAny4, x_wh1, x_wh2, x_wh0, x_abs, vI_ii, vI_ib, vI_it, vI_il, vI_is, vI_bb, vI_bi, vI_tt, vI_tl, vI_ti, vI_ll, vI_lt, vI_ss, vEqB, vNeB, x_ta, x_ta1, x_ta2, x_ta3, x_ta4, x_ta5, x_is, nc_0, nc_1, nc_2, nc_3, nc_4, nc_5, nc_6, nc_7, nc_8, nc_9, nc_10, nc_11, vMax2, vMin2, vIsN0, vIsN1, vNotN0, vNotN1, vIsN2, vNotN2, x_lo, x_lo1, x_lo2, vAll2, vAny2, x_sl, x_sl1, x_sl2, x_pn, x_ps, x_ps1, x_cutL, x_cutC, vEqS, vNeS, x_fz_obj, x_fr_obj, x_make, x_meth, x_meth2, x_meth3, x_isO, x_isO1, x_cat, x_cat1, x_methZ, x_methZ2, x_methZ3, x_callZ, x_callZ1, x_lend1, x_lend2, x_cl_int, x_cl_bl, x_cl_str, x_cl_non, x_cl_tup, x_cl0, x_cl1, x_cl_lst, x_setIx, x_setIx1, x_setIx2, x_callI, x_callI1, x_callI2, x_callI3, x_take0, x_take1, x_take2, x_put0, x_put1, x_cFI, x_cRI1, x_cRI2, x_outR, x_outR1, x_out1, x_out2, x_par, x_par1, x_sort, x_sort1, x_sort2, x_io2, x_io4, vIsB, x_pop, x_lr, x_lr1, x_clr, x_clr1, x_clrE, x_clrE1, x_pop1, x_pop2, x_ins, x_ins1, x_ins2, List.all_cons, List.all_nil, Option.isSome_some, Option.map_some, List.getD_cons_zero, List.getD_cons_succ, List.set_cons_zero, List.set_cons_succ, List.map_cons, List.map_nil, List.replicate_zero, List.replicate_succ, List.length_cons, List.length_nil, List.cons_append, List.nil_append, Option.bind_some, if_true, if_false, Bool.false_eq_true, Nat.reduceSub, Nat.reduceAdd, Nat.reduceLeDiff, Nat.reduceLT, vAdd, vSub, vLt, vLe, vGt, vGe, vNeg, vEq, vNe, vEq2, vNe2, vMod, vDiv, vMul, vPow, Int.reduceToNat, vIx0, vIx1, vLenT, vLenC, vLenL, reduceIte, decide_true, decide_false, Bool.not_true, Bool.not_false, beq_self_eq_true, Bool.and_true, Bool.true_and, Bool.and_self, Bool.and_false, Bool.false_and, lS, m1, m2, x1, x2, h4, h3, hsw, h5]
theorem lim {w k : Nat} (hw : w ≤ 10000) (hk : k ≤ 16) : w * k + 1 + w < 1000000 := by
  have := Nat.mul_le_mul hw hk
  omega
theorem pow_size {x : Int} {m : Nat} (h : x.natAbs < 2 ^ m) (k : Nat) : (x ^ k).natAbs < 2 ^ (m * k + 1) := by
  rw [Int.natAbs_pow, Nat.pow_succ, Nat.pow_mul]
  have := Nat.pow_le_pow_left (Nat.le_of_lt h) k
  have : 0 < (2 ^ m) ^ k := Nat.pow_pos (Nat.pow_pos (by decide))
  omega
theorem lpow_loop {x : Int} {w : Nat} (hw : w ≤ 10000) (hx : x.natAbs < 2 ^ w) (M : D) {b : MS} (hb : b = sAsg (eZ (Bn.z2 gMul (zVar 2) (zVar 0))) (gN 2)) :
    ∀ (items : List D) (k : Nat) (r : Option D), k + items.length ≤ 16 → ∃ r', forL (gN 3) b items [some (.int x), some M, some (.int (x ^ k)), r] = .nx [some (.int x), some M, some (.int (x ^ (k + items.length))), r']
  | [], k, r, _ => ⟨r, rfl⟩
  | d :: ds, k, r, hk => by
    have hk' : k + 1 + ds.length ≤ 16 := by rw [List.length_cons] at hk; omega
    obtain ⟨r', e⟩ := lpow_loop hw hx M hb ds (k + 1) (some d) hk'
    have w : L2.CMulW (x ^ k) x := mulW (w * k + 1) w (pow_size hx k) hx (lim hw (by omega))
    refine ⟨r', ?_⟩
    have eb : b [some (.int x), some M, some (.int (x ^ k)), some d] = .nx [some (.int x), some M, some (.int (x ^ (k + 1))), some d] := by
      subst hb
      simp only [x_seq, x_seq1, x_seq2, x_seq3, x_seq4, x_seq5, x_seq6, x_nil, x_if, x_if1, x_if2, x_if3, x_ret, x_ret1, x_ret2, x_ret3, x_retN, x_asg, x_asg1, x_asg2, x_asg3, x_asg4, x_asg5, x_gN, x_drop, x_drop1, x_drop2, x_bk, x_ct, x_raise, x_tZ, x_tZ1, x_tZ2, x_tE, x_tE1, x_tE2, x_tE3, x_tAnd, x_tAnd1, x_tAnd2, x_tAnd3, x_tOr, x_tOr1, x_tOr2, x_tOr3, x_tNot, x_tNot1, x_tNot2, x_tNot3, x_tTrue, x_z2, x_z21, x_z1, x_z11, x_zC, x_zC1, x_za, x_za1, x_za0, x_zV, x_zK, x_ch, x_ch1, x_ch2, x_eZ, x_eZ1, x_eZ2, x_eV, x_eV1, x_eM, x_eM1, x_b1, x_b2, x_b3, x_s1, x_s2, x_s3, x_oO, x_oO2, x_e2, x_e1, x_eC, x_aN, x_aC, x_tup, x_lst, x_call, x_oC1, x_oC2, x_call0, x_call01, x_eAnd, x_eAnd1, x_eOr, x_eOr1, x_eNot, x_eNot1, x_eIf, x_eIf1, x_fz_int, x_fr_int, x_fz_bl, x_fr_bl, x_fz_str, x_fr_str, x_fz_ty, x_fr_ty, x_fz_tup, x_fr_tup, x_fz_cst, x_fr_cst, x_fz_lst_false, x_fr_lst_false, x_fz_non, x_fr_non, x_fz_lt, x_fr_lt, x_fL0, x_fL1, x_cF, x_cR1, x_cR2, x_cR3, x_iL, x_iL1, x_iT, x_iT1, x_iS, x_iS1, x_iR1, x_iR11, x_iR2, x_iR21, x_iE, x_iE1, x_iV, x_iV1, x_iZ, x_iZ1, x_for, x_fo0, x_fo1, x_fo2, x_fo3, x_fo4, x_fo5, x_fo6, x_fo7, x_gT, x_gC, x_gC0, x_try, x_try1, x_try2, x_try3, x_try4, x_try5, x_nx1, x_nx2, x_try6, x_try7, x_nx3, x_nx4, x_app, x_app1, x_app2, x_lc, x_lcE, x_lc0, x_lc1, x_lcG, x_w0, x_w1, vMinL4, vMaxL4, vAll3, vAny3, vAll4, vAny4, x_wh1, x_wh2, x_wh0, x_abs, vI_ii, vI_ib, vI_it, vI_il, vI_is, vI_bb, vI_bi, vI_tt, vI_tl, vI_ti, vI_ll, vI_lt, vI_ss, vEqB, vNeB, x_ta, x_ta1, x_ta2, x_ta3, x_ta4, x_ta5, x_is, nc_0, nc_1, nc_2, nc_3, nc_4, nc_5, nc_6, nc_7, nc_8, nc_9, nc_10, nc_11, vMax2, vMin2, vIsN0, vIsN1, vNotN0, vNotN1, vIsN2, vNotN2, x_lo, x_lo1, x_lo2, vAll2, vAny2, x_sl, x_sl1, x_sl2, x_pn, x_ps, x_ps1, x_cutL, x_cutC, vEqS, vNeS, x_fz_obj, x_fr_obj, x_make, x_meth, x_meth2, x_meth3, x_isO, x_isO1, x_cat, x_cat1, x_methZ, x_methZ2, x_methZ3, x_callZ, x_callZ1, x_lend1, x_lend2, x_cl_int, x_cl_bl, x_cl_str, x_cl_non, x_cl_tup, x_cl0, x_cl1, x_cl_lst, x_setIx, x_setIx1, x_setIx2, x_callI, x_callI1, x_callI2, x_callI3, x_take0, x_take1, x_take2, x_put0, x_put1, x_cFI, x_cRI1, x_cRI2, x_outR, x_outR1, x_out1, x_out2, x_par, x_par1, x_sort, x_sort1, x_sort2, x_io2, x_io4, vIsB, x_pop, x_lr, x_lr1, x_clr, x_clr1, x_clrE, x_clrE1, x_pop1, x_pop2, x_ins, x_ins1, x_ins2, List.all_cons, List.all_nil, Option.isSome_some, Option.map_some, List.getD_cons_zero, List.getD_cons_succ, List.set_cons_zero, List.set_cons_succ, List.map_cons, List.map_nil, List.replicate_zero, List.replicate_succ, List.length_cons, List.length_nil, List.cons_append, List.nil_append, Option.bind_some, if_true, if_false, Bool.false_eq_true, Nat.reduceSub, Nat.reduceAdd, Nat.reduceLeDiff, Nat.reduceLT, vAdd, vSub, vLt, vLe, vGt, vGe, vNeg, vEq, vNe, vEq2, vNe2, vMod, vDiv, vMul, vPow, Int.reduceToNat, vIx0, vIx1, vLenT, vLenC, vLenL, reduceIte, decide_true, decide_false, Bool.not_true, Bool.not_false, beq_self_eq_true, Bool.and_true, Bool.true_and, Bool.and_self, Bool.and_false, Bool.false_and, vMul w, Int.pow_succ]
    rw [x_fo1]
    show forB (b [some (.int x), some M, some (.int (x ^ k)), some d]) _ = _
    rw [eb, x_fo3, e, List.length_cons, show k + (ds.length + 1) = k + 1 + ds.length by omega]
theorem lpower_j {x j : Int} {w : Nat} (hw : w ≤ 10000) (hx : x.natAbs < 2 ^ w) (m : Nat) (m6 : m ≤ 16) (e2 : j.toNat = m) (b1 : -4611686018427387904 ≤ j) (b2 : j < 4611686018427387904) : f__law_often [.int x, .int j] = .ok (.int (x ^ m)) := by
  obtain ⟨r, e⟩ := lpow_loop hw hx (.int j) rfl (rangeD 0 m) 0 none (by rw [length_rangeD]; omega)
  rw [length_rangeD, show 0 + m = m by omega, Int.pow_zero] at e
  simp only [f__law_often, m__law_often, x_seq, x_seq1, x_seq2, x_seq3, x_seq4, x_seq5, x_seq6, x_nil, x_if, x_if1, x_if2, x_if3, x_ret, x_ret1, x_ret2, x_ret3, x_retN, x_asg, x_asg1, x_asg2, x_asg3, x_asg4, x_asg5, x_gN, x_drop, x_drop1, x_drop2, x_bk, x_ct, x_raise, x_tZ, x_tZ1, x_tZ2, x_tE, x_tE1, x_tE2, x_tE3, x_tAnd, x_tAnd1, x_tAnd2, x_tAnd3, x_tOr, x_tOr1, x_tOr2, x_tOr3, x_tNot, x_tNot1, x_tNot2, x_tNot3, x_tTrue, x_z2, x_z21, x_z1, x_z11, x_zC, x_zC1, x_za, x_za1, x_za0, x_zV, x_zK, x_ch, x_ch1, x_ch2, x_eZ, x_eZ1, x_eZ2, x_eV, x_eV1, x_eM, x_eM1, x_b1, x_b2, x_b3, x_s1, x_s2, x_s3, x_oO, x_oO2, x_e2, x_e1, x_eC, x_aN, x_aC, x_tup, x_lst, x_call, x_oC1, x_oC2, x_call0, x_call01, x_eAnd, x_eAnd1, x_eOr, x_eOr1, x_eNot, x_eNot1, x_eIf, x_eIf1, x_fz_int, x_fr_int, x_fz_bl, x_fr_bl, x_fz_str, x_fr_str, x_fz_ty, x_fr_ty, x_fz_tup, x_fr_tup, x_fz_cst, x_fr_cst, x_fz_lst_false, x_fr_lst_false, x_fz_non, x_fr_non, x_fz_lt, x_fr_lt, x_fL0, x_fL1, x_cF, x_cR1, x_cR2, x_cR3, x_iL, x_iL1, x_iT, x_iT1, x_iS, x_iS1, x_iR1, x_iR11, x_iR2, x_iR21, x_iE, x_iE1, x_iV, x_iV1, x_iZ, x_iZ1, x_for, x_fo0, x_fo1, x_fo2, x_fo3, x_fo4, x_fo5, x_fo6, x_fo7, x_gT, x_gC, x_gC0, x_try, x_try1, x_try2, x_try3, x_try4, x_try5, x_nx1, x_nx2, x_try6, x_try7, x_nx3, x_nx4, x_app, x_app1, x_app2, x_lc, x_lcE, x_lc0, x_lc1, x_lcG, x_w0, x_w1, vMinL4, vMaxL4, vAll3, vAny3, vAll4, vAny4, x_wh1, x_wh2, x_wh0, x_abs, vI_ii, vI_ib, vI_it, vI_il, vI_is, vI_bb, vI_bi, vI_tt, vI_tl, vI_ti, vI_ll, vI_lt, vI_ss, vEqB, vNeB, x_ta, x_ta1, x_ta2, x_ta3, x_ta4, x_ta5, x_is, nc_0, nc_1, nc_2, nc_3, nc_4, nc_5, nc_6, nc_7, nc_8, nc_9, nc_10, nc_11, vMax2, vMin2, vIsN0, vIsN1, vNotN0, vNotN1, vIsN2, vNotN2, x_lo, x_lo1, x_lo2, vAll2, vAny2, x_sl, x_sl1, x_sl2, x_pn, x_ps, x_ps1, x_cutL, x_cutC, vEqS, vNeS, x_fz_obj, x_fr_obj, x_make, x_meth, x_meth2, x_meth3, x_isO, x_isO1, x_cat, x_cat1, x_methZ, x_methZ2, x_methZ3, x_callZ, x_callZ1, x_lend1, x_lend2, x_cl_int, x_cl_bl, x_cl_str, x_cl_non, x_cl_tup, x_cl0, x_cl1, x_cl_lst, x_setIx, x_setIx1, x_setIx2, x_callI, x_callI1, x_callI2, x_callI3, x_take0, x_take1, x_take2, x_put0, x_put1, x_cFI, x_cRI1, x_cRI2, x_outR, x_outR1, x_out1, x_out2, x_par, x_par1, x_sort, x_sort1, x_sort2, x_io2, x_io4, vIsB, x_pop, x_lr, x_lr1, x_clr, x_clr1, x_clrE, x_clrE1, x_pop1, x_pop2, x_ins, x_ins1, x_ins2, List.all_cons, List.all_nil, Option.isSome_some, Option.map_some, List.getD_cons_zero, List.getD_cons_succ, List.set_cons_zero, List.set_cons_succ, List.map_cons, List.map_nil, List.replicate_zero, List.replicate_succ, List.length_cons, List.length_nil, List.cons_append, List.nil_append, Option.bind_some, if_true, if_false, Bool.false_eq_true, Nat.reduceSub, Nat.reduceAdd, Nat.reduceLeDiff, Nat.reduceLT, vAdd, vSub, vLt, vLe, vGt, vGe, vNeg, vEq, vNe, vEq2, vNe2, vMod, vDiv, vMul, vPow, Int.reduceToNat, vIx0, vIx1, vLenT, vLenC, vLenL, reduceIte, decide_true, decide_false, Bool.not_true, Bool.not_false, beq_self_eq_true, Bool.and_true, Bool.true_and, Bool.and_self, Bool.and_false, Bool.false_and, x_iR11 b1 b2, e2, e]
theorem mult_j {x j : Int} {w : Nat} (hw : w ≤ 10000) (hx : x.natAbs < 2 ^ w) (m : Nat) (m6 : m ≤ 16) (e2 : j.toNat = m) (b1 : -4611686018427387904 ≤ j) (b2 : j < 4611686018427387904) : f_multiplied [.int x, .int j] = .ok (.int (x ^ m)) := by
  obtain ⟨r, e⟩ := lpow_loop hw hx (.int j) rfl (rangeD 0 m) 0 none (by rw [length_rangeD]; omega)
  rw [length_rangeD, show 0 + m = m by omega, Int.pow_zero] at e
  simp only [f_multiplied, m_multiplied, x_seq, x_seq1, x_seq2, x_seq3, x_seq4, x_seq5, x_seq6, x_nil, x_if, x_if1, x_if2, x_if3, x_ret, x_ret1, x_ret2, x_ret3, x_retN, x_asg, x_asg1, x_asg2, x_asg3, x_asg4, x_asg5, x_gN, x_drop, x_drop1, x_drop2, x_bk, x_ct, x_raise, x_tZ, x_tZ1, x_tZ2, x_tE, x_tE1, x_tE2, x_tE3, x_tAnd, x_tAnd1, x_tAnd2, x_tAnd3, x_tOr, x_tOr1, x_tOr2, x_tOr3, x_tNot, x_tNot1, x_tNot2, x_tNot3, x_tTrue, x_z2, x_z21, x_z1, x_z11, x_zC, x_zC1, x_za, x_za1, x_za0, x_zV, x_zK, x_ch, x_ch1, x_ch2, x_eZ, x_eZ1, x_eZ2, x_eV, x_eV1, x_eM, x_eM1, x_b1, x_b2, x_b3, x_s1, x_s2, x_s3, x_oO, x_oO2, x_e2, x_e1, x_eC, x_aN, x_aC, x_tup, x_lst, x_call, x_oC1, x_oC2, x_call0, x_call01, x_eAnd, x_eAnd1, x_eOr, x_eOr1, x_eNot, x_eNot1, x_eIf, x_eIf1, x_fz_int, x_fr_int, x_fz_bl, x_fr_bl, x_fz_str, x_fr_str, x_fz_ty, x_fr_ty, x_fz_tup, x_fr_tup, x_fz_cst, x_fr_cst, x_fz_lst_false, x_fr_lst_false, x_fz_non, x_fr_non, x_fz_lt, x_fr_lt, x_fL0, x_fL1, x_cF, x_cR1, x_cR2, x_cR3, x_iL, x_iL1, x_iT, x_iT1, x_iS, x_iS1, x_iR1, x_iR11, x_iR2, x_iR21, x_iE, x_iE1, x_iV, x_iV1, x_iZ, x_iZ1, x_for, x_fo0, x_fo1, x_fo2, x_fo3, x_fo4, x_fo5, x_fo6, x_fo7, x_gT, x_gC, x_gC0, x_try, x_try1, x_try2, x_try3, x_try4, x_try5, x_nx1, x_nx2, x_try6, x_try7, x_nx3, x_nx4, x_app, x_app1, x_app2, x_lc, x_lcE, x_lc0, x_lc1, x_lcG, x_w0, x_w1, vMinL4, vMaxL4, vAll3, vAny3, vAll4, vAny4, x_wh1, x_wh2, x_wh0, x_abs, vI_ii, vI_ib, vI_it, vI_il, vI_is, vI_bb, vI_bi, vI_tt, vI_tl, vI_ti, vI_ll, vI_lt, vI_ss, vEqB, vNeB, x_ta, x_ta1, x_ta2, x_ta3, x_ta4, x_ta5, x_is, nc_0, nc_1, nc_2, nc_3, nc_4, nc_5, nc_6, nc_7, nc_8, nc_9, nc_10, nc_11, vMax2, vMin2, vIsN0, vIsN1, vNotN0, vNotN1, vIsN2, vNotN2, x_lo, x_lo1, x_lo2, vAll2, vAny2, x_sl, x_sl1, x_sl2, x_pn, x_ps, x_ps1, x_cutL, x_cutC, vEqS, vNeS, x_fz_obj, x_fr_obj, x_make, x_meth, x_meth2, x_meth3, x_isO, x_isO1, x_cat, x_cat1, x_methZ, x_methZ2, x_methZ3, x_callZ, x_callZ1, x_lend1, x_lend2, x_cl_int, x_cl_bl, x_cl_str, x_cl_non, x_cl_tup, x_cl0, x_cl1, x_cl_lst, x_setIx, x_setIx1, x_setIx2, x_callI, x_callI1, x_callI2, x_callI3, x_take0, x_take1, x_take2, x_put0, x_put1, x_cFI, x_cRI1, x_cRI2, x_outR, x_outR1, x_out1, x_out2, x_par, x_par1, x_sort, x_sort1, x_sort2, x_io2, x_io4, vIsB, x_pop, x_lr, x_lr1, x_clr, x_clr1, x_clrE, x_clrE1, x_pop1, x_pop2, x_ins, x_ins1, x_ins2, List.all_cons, List.all_nil, Option.isSome_some, Option.map_some, List.getD_cons_zero, List.getD_cons_succ, List.set_cons_zero, List.set_cons_succ, List.map_cons, List.map_nil, List.replicate_zero, List.replicate_succ, List.length_cons, List.length_nil, List.cons_append, List.nil_append, Option.bind_some, if_true, if_false, Bool.false_eq_true, Nat.reduceSub, Nat.reduceAdd, Nat.reduceLeDiff, Nat.reduceLT, vAdd, vSub, vLt, vLe, vGt, vGe, vNeg, vEq, vNe, vEq2, vNe2, vMod, vDiv, vMul, vPow, Int.reduceToNat, vIx0, vIx1, vLenT, vLenC, vLenL, reduceIte, decide_true, decide_false, Bool.not_true, Bool.not_false, beq_self_eq_true, Bool.and_true, Bool.true_and, Bool.and_self, Bool.and_false, Bool.false_and, x_iR11 b1 b2, e2, e]
theorem fl_ce {x y g : Int} (h : x ≤ y) (g0 : 0 < g) : x / g ≤ -(-y / g) := by
  have h1 := Int.ediv_mul_le x (show g ≠ 0 by omega)
  have h2 := Int.ediv_mul_le (-y) (show g ≠ 0 by omega)
  have h3 : (x / g) * g ≤ (-(-y / g)) * g := by grind
  exact Int.le_of_mul_le_mul_right h3 g0
theorem pow_even_nonneg (x : Int) {k : Nat} (h : k % 2 = 0) : 0 ≤ x ^ k := by
  obtain ⟨j, rfl⟩ : ∃ j, k = j * 2 := ⟨k / 2, by omega⟩
  rw [Int.pow_mul, Int.pow_succ, Int.pow_succ, Int.pow_zero, Int.one_mul]
  rcases Int.le_total 0 (x ^ j) with h | h
  · exact Int.mul_nonneg h h
  · exact Int.mul_nonneg_of_nonpos_of_nonpos h h
/-! what the spans of one node are -/
def addS (a b : Int × Int) : Int × Int := (a.1 + b.1, a.2 + b.2)
def subS (a b : Int × Int) : Int × Int := (a.1 - b.2, a.2 - b.1)
def mulS (a b : Int × Int) (g : Int) : Int × Int := (minI (a.1 * b.1) [a.1 * b.2, a.2 * b.1, a.2 * b.2] / g, -(-maxI (a.1 * b.1) [a.1 * b.2, a.2 * b.1, a.2 * b.2] / g))
def lowP (a b : Int) (n : Nat) : Int := if n % 2 = 0 ∧ a ≤ 0 ∧ 0 ≤ b then 0 else mnI (a ^ n) (b ^ n)
def powS (a : Int × Int) (n : Nat) (g : Int) : Int × Int := (lowP a.1 a.2 n / g ^ (n - 1), -(-mxI (a.1 ^ n) (a.2 ^ n) / g ^ (n - 1)))
def pt (ss : List (Int × Int)) (i : Int) : Int × Int := ss.getD i.toNat (0, 0)
def spW (ss bs : List (Int × Int)) (g : Int) : Nd → Int × Int
  | .num t b => (t * g / b, -(-t * g / b))
  | .unk j => pt bs j
  | .plus i j => addS (pt ss i) (pt ss j)
  | .minus i j => subS (pt ss i) (pt ss j)
  | .times i j => mulS (pt ss i) (pt ss j) g
  | .pow i k => powS (pt ss i) k.toNat g
theorem lowP_le {a b : Int} (ab : a ≤ b) {n : Nat} (nz : n ≠ 0) : lowP a b n ≤ mxI (a ^ n) (b ^ n) := by
  unfold lowP
  split
  · rename_i h
    have a0 := pow_even_nonneg a h.1
    have := mxI_le (a ^ n) (b ^ n)
    omega
  · exact Int.le_trans (mnI_le _ _).1 (mxI_le _ _).1
/-- sizes -/
def Sz (W : Nat) (p : Int × Int) : Prop := p.1.natAbs < 2 ^ W ∧ p.2.natAbs < 2 ^ W
theorem div_size {x b : Int} (h : 1 ≤ b) : (x / b).natAbs ≤ x.natAbs := by
  rcases Int.le_total 0 x with hx | hx
  · have h1 := Int.ediv_nonneg hx (show 0 ≤ b by omega)
    have h2 := Int.ediv_le_self b hx
    omega
  · have h1 : x ≤ x / b := Int.le_ediv_of_mul_le (by omega) (by
      have h3 := Int.mul_le_mul_of_nonneg_left h (show 0 ≤ -x by omega)
      rw [Int.neg_mul, Int.neg_mul] at h3
      omega)
    have h2 : x / b ≤ 0 := by
      have := Int.ediv_le_ediv (show 0 < b by omega) hx
      simpa using this
    omega
theorem add_size {A B : Nat} (hA : 1 ≤ A) (hB : 1 ≤ B) {x y : Nat} (hx : x < 2 ^ A) (hy : y < 2 ^ B) : x + y < 2 ^ (A + B) := by
  rw [Nat.pow_add]
  have h1 : 2 ≤ 2 ^ A := by have := Nat.pow_le_pow_right (show 0 < 2 by decide) hA; simpa using this
  have h2 : 2 ≤ 2 ^ B := by have := Nat.pow_le_pow_right (show 0 < 2 by decide) hB; simpa using this
  generalize 2 ^ A = P at *
  generalize 2 ^ B = Q at *
  have h3 := Nat.mul_le_mul_right Q h1
  have h4 := Nat.mul_le_mul_left P h2
  omega
theorem mul_size {A B : Nat} {x y : Int} (hx : x.natAbs < 2 ^ A) (hy : y.natAbs < 2 ^ B) : (x * y).natAbs < 2 ^ (A + B) := L2.wide_lt hx hy
theorem Sz.add {A B : Nat} (hA : 1 ≤ A) (hB : 1 ≤ B) {p q : Int × Int} (hp : Sz A p) (hq : Sz B q) : Sz (A + B) (addS p q) := by
  obtain ⟨p1, p2⟩ := p
  obtain ⟨q1, q2⟩ := q
  exact ⟨Nat.lt_of_le_of_lt (Int.natAbs_add_le _ _) (add_size hA hB hp.1 hq.1), Nat.lt_of_le_of_lt (Int.natAbs_add_le _ _) (add_size hA hB hp.2 hq.2)⟩
theorem Sz.sub {A B : Nat} (hA : 1 ≤ A) (hB : 1 ≤ B) {p q : Int × Int} (hp : Sz A p) (hq : Sz B q) : Sz (A + B) (subS p q) := by
  obtain ⟨p1, p2⟩ := p
  obtain ⟨q1, q2⟩ := q
  have key : ∀ x y : Int, (x - y).natAbs ≤ x.natAbs + y.natAbs := fun x y => by omega
  exact ⟨Nat.lt_of_le_of_lt (key _ _) (add_size hA hB hp.1 hq.2), Nat.lt_of_le_of_lt (key _ _) (add_size hA hB hp.2 hq.1)⟩
theorem Sz.mul {A B : Nat} {p q : Int × Int} (hp : Sz A p) (hq : Sz B q) {g : Int} (g1 : 1 ≤ g) : Sz (A + B) (mulS p q g) := by
  have c1 := mul_size hp.1 hq.1
  have c2 := mul_size hp.1 hq.2
  have c3 := mul_size hp.2 hq.1
  have c4 := mul_size hp.2 hq.2
  have all : ∀ x ∈ [p.1 * q.2, p.2 * q.1, p.2 * q.2], x.natAbs < 2 ^ (A + B) := fun x hx => by
    simp only [List.mem_cons, List.not_mem_nil, or_false] at hx
    rcases hx with rfl | rfl | rfl <;> assumption
  constructor
  · refine Nat.lt_of_le_of_lt (div_size g1) ?_
    rcases (minI_le (p.1 * q.1) [p.1 * q.2, p.2 * q.1, p.2 * q.2]).2.2 with h | h
    · rw [h]; exact c1
    · exact all _ h
  · show (-(-maxI (p.1 * q.1) [p.1 * q.2, p.2 * q.1, p.2 * q.2] / g)).natAbs < _
    rw [Int.natAbs_neg]
    refine Nat.lt_of_le_of_lt (div_size g1) ?_
    rw [Int.natAbs_neg]
    rcases (maxI_le (p.1 * q.1) [p.1 * q.2, p.2 * q.1, p.2 * q.2]).2.2 with h | h
    · rw [h]; exact c1
    · exact all _ h
theorem Sz.pow {A n : Nat} (n1 : n ≠ 0) {p : Int × Int} (hp : Sz A p) {g : Int} (g1 : 1 ≤ g) : Sz (A * n) (powS p n g) := by
  have s1 : 1 ≤ g ^ (n - 1) := by have : 0 < g ^ (n - 1) := Int.pow_pos (show 0 < g by omega); omega
  have c : ∀ x : Int, x.natAbs < 2 ^ A → (x ^ n).natAbs < 2 ^ (A * n) := fun x hx => by
    rw [Int.natAbs_pow, Nat.pow_mul]
    exact Nat.pow_lt_pow_left hx n1
  have c1 := c _ hp.1
  have c2 := c _ hp.2
  constructor
  · refine Nat.lt_of_le_of_lt (div_size s1) ?_
    unfold lowP
    split
    · exact Nat.pow_pos (by decide)
    · rcases (mnI_le (p.1 ^ n) (p.2 ^ n)).2.2 with h | h <;> rw [h] <;> assumption
  · show (-(-mxI (p.1 ^ n) (p.2 ^ n) / g ^ (n - 1))).natAbs < _
    rw [Int.natAbs_neg]
    refine Nat.lt_of_le_of_lt (div_size s1) ?_
    rw [Int.natAbs_neg]
    rcases (mxI_le (p.1 ^ n) (p.2 ^ n)).2.2 with h | h <;> rw [h] <;> assumption
structure Gd (ws : List Int) (ss : List (Int × Int)) : Prop where
  g : ∀ (k : Nat) (p : Int × Int), ss[k]? = some p → p.1 ≤ p.2 ∧ Sz (50 * (ws.getD k 0).toNat) p
theorem Gd.at {ws : List Int} {ss : List (Int × Int)} (h : Gd ws ss) {i : Int} (i0 : 0 ≤ i) (i1 : i < ss.length) : (pt ss i).1 ≤ (pt ss i).2 ∧ Sz (50 * (ws.getD i.toNat 0).toNat) (pt ss i) := by
  have hk : i.toNat < ss.length := by omega
  have := h.g i.toNat _ (List.getElem?_eq_getElem hk)
  unfold pt
  rw [List.getD_eq_getElem?_getD, List.getElem?_eq_getElem hk]
  exact this
theorem box_at {bs : List (Int × Int)} (h : ∀ p ∈ bs, SpB p) {j : Int} (j0 : 0 ≤ j) (j1 : j < bs.length) : SpB (pt bs j) := by
  have hk : j.toNat < bs.length := by omega
  unfold pt
  rw [List.getD_eq_getElem?_getD, List.getElem?_eq_getElem hk]
  exact h _ (List.getElem_mem hk)
theorem ix_pt {ss : List (Int × Int)} {i : Int} (i0 : 0 ≤ i) (i1 : i < ss.length) (m : Bool) : gIx (.lst m (ss.map spD)) (.int i) = some (.tup [.int (pt ss i).1, .int (pt ss i).2]) := by
  have hk : i.toNat < ss.length := by omega
  have e : i = (i.toNat : Nat) := by omega
  unfold pt
  rw [List.getD_eq_getElem?_getD, List.getElem?_eq_getElem hk, vIxL_of e (d := spD ss[i.toNat]) (by rw [List.getElem?_map, List.getElem?_eq_getElem hk]; rfl)]
  rfl
theorem Sz.mono {A B : Nat} {p : Int × Int} (h : Sz A p) (hab : A ≤ B) : Sz B p :=
  ⟨Nat.lt_of_lt_of_le h.1 (Nat.pow_le_pow_right (by decide) hab), Nat.lt_of_lt_of_le h.2 (Nat.pow_le_pow_right (by decide) hab)⟩
theorem spW_good {M : Int} {ns : List Nd} {ws : List Int} (hN : Net M ns ws) {ss bs : List (Int × Int)} (hM : M = bs.length) (hb : ∀ p ∈ bs, SpB p) (hs : Gd ws ss) {n : Nd} (hn : ns[ss.length]? = some n) {g : Int} (g1 : 1 ≤ g) (g2 : g ≤ 1000000) : (spW ss bs g n).1 ≤ (spW ss bs g n).2 ∧ Sz (50 * (wt ws n).toNat) (spW ss bs g n) := by
  obtain ⟨hB, _, _, _⟩ := hN.nd _ _ hn
  have hl : ss.length < ns.length := (List.getElem?_eq_some_iff.mp hn).1
  have wa : ∀ {i : Int}, 0 ≤ i → i < ss.length → 1 ≤ ws.getD i.toNat 0 ∧ ws.getD i.toNat 0 ≤ 16 := fun h0 h1 => hN.at h0 (by omega)
  cases n with
  | num t b =>
    obtain ⟨b1, _, tb, bb⟩ := hB
    refine ⟨?_, ?_⟩
    · show t * g / b ≤ -(-t * g / b)
      rw [Int.neg_mul]
      exact fl_ce (Int.le_refl _) (by omega)
    · have tg : (t * g).natAbs ≤ 999999999000000 := by
        rw [Int.natAbs_mul]
        exact Nat.le_trans (Nat.mul_le_mul tb (show g.natAbs ≤ 1000000 by omega)) (by decide)
      have e1 : (-t * g).natAbs = (t * g).natAbs := by rw [Int.neg_mul, Int.natAbs_neg]
      refine ⟨Nat.lt_of_le_of_lt (div_size b1) (Nat.lt_of_le_of_lt tg (show 999999999000000 < 2 ^ (50 * 1) by decide)), ?_⟩
      show (-(-t * g / b)).natAbs < _
      rw [Int.natAbs_neg]
      exact Nat.lt_of_le_of_lt (div_size b1) (Nat.lt_of_le_of_lt (e1 ▸ tg) (show 999999999000000 < 2 ^ (50 * 1) by decide))
  | unk j =>
    obtain ⟨j0, j1⟩ := hB
    have h := box_at hb j0 (by omega)
    have h1 := h.le; have h2 := h.lo; have h3 := h.hi
    refine ⟨h1, ?_⟩
    show Sz (50 * 1) (pt bs j)
    constructor <;> omega
  | plus i j =>
    obtain ⟨i0, i1, j0, j1⟩ := hB
    obtain ⟨l1, s1⟩ := hs.at i0 i1
    obtain ⟨l2, s2⟩ := hs.at j0 j1
    have w1 := wa i0 i1
    have w2 := wa j0 j1
    refine ⟨by show _ + _ ≤ _ + _; omega, (Sz.add (by omega) (by omega) s1 s2).mono ?_⟩
    show _ ≤ 50 * (_ + _ : Int).toNat
    omega
  | minus i j =>
    obtain ⟨i0, i1, j0, j1⟩ := hB
    obtain ⟨l1, s1⟩ := hs.at i0 i1
    obtain ⟨l2, s2⟩ := hs.at j0 j1
    have w1 := wa i0 i1
    have w2 := wa j0 j1
    refine ⟨by show _ - _ ≤ _ - _; omega, (Sz.sub (by omega) (by omega) s1 s2).mono ?_⟩
    show _ ≤ 50 * (_ + _ : Int).toNat
    omega
  | times i j =>
    obtain ⟨i0, i1, j0, j1⟩ := hB
    obtain ⟨l1, s1⟩ := hs.at i0 i1
    obtain ⟨l2, s2⟩ := hs.at j0 j1
    have w1 := wa i0 i1
    have w2 := wa j0 j1
    refine ⟨fl_ce (Int.le_trans (minI_le _ _).1 (maxI_le _ _).1) (by omega), (Sz.mul s1 s2 g1).mono ?_⟩
    show _ ≤ 50 * (_ + _ : Int).toNat
    omega
  | pow i k =>
    obtain ⟨i0, i1, k2, k6⟩ := hB
    obtain ⟨l1, s1⟩ := hs.at i0 i1
    have w1 := wa i0 i1
    have nz : k.toNat ≠ 0 := by omega
    refine ⟨fl_ce (lowP_le l1 nz) (Int.pow_pos (by omega)), (Sz.pow nz s1 g1).mono ?_⟩
    show _ ≤ 50 * (k * _ : Int).toNat
    obtain ⟨w, hw⟩ : ∃ w : Nat, ws.getD i.toNat 0 = w := ⟨(ws.getD i.toNat 0).toNat, by omega⟩
    obtain ⟨q, rfl⟩ : ∃ q : Nat, k = q := ⟨k.toNat, by omega⟩
    rw [hw, ← Int.natCast_mul, Int.toNat_natCast, Int.toNat_natCast, Int.toNat_natCast, Nat.mul_assoc, Nat.mul_comm w q]
    exact Nat.le_refl _
theorem number_forth {S B : List D} {t b g : Int} (b1 : 1 ≤ b) (tb : t.natAbs < 2 ^ 40) (bb : b.natAbs < 2 ^ 40) (gb : g.natAbs < 2 ^ 40) :
    f_Number_forth [(Nd.num t b).o, .lst false S, .lst false B, .int g] = .ok (.tup [.int (t * g / b), .int (-(-t * g / b))]) := by
  have w1 : L2.CMulW t b := mulW 40 40 tb bb (by decide)
  have w2 : L2.CMulW t g := mulW 40 40 tb gb (by decide)
  have w3 : L2.CMulW (-t) g := mulW 40 40 (by omega) gb (by decide)
  have d1 : b.natAbs.log2 < 9000 := by have := log2_le bb; omega
  have b0 : 0 < b := by omega
  have lt : decide (t * b < t * b) = false := by simp
  simp (disch := decide) only [Nd.o, fl_Number_top, fl_Number_bottom, f_Number_forth, m_Number_forth, f_span_of, m_span_of, f_less, m_less, x_seq, x_seq1, x_seq2, x_seq3, x_seq4, x_seq5, x_seq6, x_nil, x_if, x_if1, x_if2, x_if3, x_ret, x_ret1, x_ret2, x_ret3, x_retN, x_asg, x_asg1, x_asg2, x_asg3, x_asg4, x_asg5, x_gN, x_drop, x_drop1, x_drop2, x_bk, x_ct, x_raise, x_tZ, x_tZ1, x_tZ2, x_tE, x_tE1, x_tE2, x_tE3, x_tAnd, x_tAnd1, x_tAnd2, x_tAnd3, x_tOr, x_tOr1, x_tOr2, x_tOr3, x_tNot, x_tNot1, x_tNot2, x_tNot3, x_tTrue, x_z2, x_z21, x_z1, x_z11, x_zC, x_zC1, x_za, x_za1, x_za0, x_zV, x_zK, x_ch, x_ch1, x_ch2, x_eZ, x_eZ1, x_eZ2, x_eV, x_eV1, x_eM, x_eM1, x_b1, x_b2, x_b3, x_s1, x_s2, x_s3, x_oO, x_oO2, x_e2, x_e1, x_eC, x_aN, x_aC, x_tup, x_lst, x_call, x_oC1, x_oC2, x_call0, x_call01, x_eAnd, x_eAnd1, x_eOr, x_eOr1, x_eNot, x_eNot1, x_eIf, x_eIf1, x_fz_int, x_fr_int, x_fz_bl, x_fr_bl, x_fz_str, x_fr_str, x_fz_ty, x_fr_ty, x_fz_tup, x_fr_tup, x_fz_cst, x_fr_cst, x_fz_lst_false, x_fr_lst_false, x_fz_non, x_fr_non, x_fz_lt, x_fr_lt, x_fL0, x_fL1, x_cF, x_cR1, x_cR2, x_cR3, x_iL, x_iL1, x_iT, x_iT1, x_iS, x_iS1, x_iR1, x_iR11, x_iR2, x_iR21, x_iE, x_iE1, x_iV, x_iV1, x_iZ, x_iZ1, x_for, x_fo0, x_fo1, x_fo2, x_fo3, x_fo4, x_fo5, x_fo6, x_fo7, x_gT, x_gC, x_gC0, x_try, x_try1, x_try2, x_try3, x_try4, x_try5, x_nx1, x_nx2, x_try6, x_try7, x_nx3, x_nx4, x_app, x_app1, x_app2, x_lc, x_lcE, x_lc0, x_lc1, x_lcG, x_w0, x_w1, vMinL4, vMaxL4, vAll3, vAny3, vAll4, vAny4, x_wh1, x_wh2, x_wh0, x_abs, vI_ii, vI_ib, vI_it, vI_il, vI_is, vI_bb, vI_bi, vI_tt, vI_tl, vI_ti, vI_ll, vI_lt, vI_ss, vEqB, vNeB, x_ta, x_ta1, x_ta2, x_ta3, x_ta4, x_ta5, x_is, nc_0, nc_1, nc_2, nc_3, nc_4, nc_5, nc_6, nc_7, nc_8, nc_9, nc_10, nc_11, vMax2, vMin2, vIsN0, vIsN1, vNotN0, vNotN1, vIsN2, vNotN2, x_lo, x_lo1, x_lo2, vAll2, vAny2, x_sl, x_sl1, x_sl2, x_pn, x_ps, x_ps1, x_cutL, x_cutC, vEqS, vNeS, x_fz_obj, x_fr_obj, x_make, x_meth, x_meth2, x_meth3, x_isO, x_isO1, x_cat, x_cat1, x_methZ, x_methZ2, x_methZ3, x_callZ, x_callZ1, x_lend1, x_lend2, x_cl_int, x_cl_bl, x_cl_str, x_cl_non, x_cl_tup, x_cl0, x_cl1, x_cl_lst, x_setIx, x_setIx1, x_setIx2, x_callI, x_callI1, x_callI2, x_callI3, x_take0, x_take1, x_take2, x_put0, x_put1, x_cFI, x_cRI1, x_cRI2, x_outR, x_outR1, x_out1, x_out2, x_par, x_par1, x_sort, x_sort1, x_sort2, x_io2, x_io4, vIsB, x_pop, x_lr, x_lr1, x_clr, x_clr1, x_clrE, x_clrE1, x_pop1, x_pop2, x_ins, x_ins1, x_ins2, List.all_cons, List.all_nil, Option.isSome_some, Option.map_some, List.getD_cons_zero, List.getD_cons_succ, List.set_cons_zero, List.set_cons_succ, List.map_cons, List.map_nil, List.replicate_zero, List.replicate_succ, List.length_cons, List.length_nil, List.cons_append, List.nil_append, Option.bind_some, if_true, if_false, Bool.false_eq_true, Nat.reduceSub, Nat.reduceAdd, Nat.reduceLeDiff, Nat.reduceLT, vAdd, vSub, vLt, vLe, vGt, vGe, vNeg, vEq, vNe, vEq2, vNe2, vMod, vDiv, vMul, vPow, Int.reduceToNat, vIx0, vIx1, vLenT, vLenC, vLenL, reduceIte, decide_true, decide_false, Bool.not_true, Bool.not_false, beq_self_eq_true, Bool.and_true, Bool.true_and, Bool.and_self, Bool.and_false, Bool.false_and, vMul w1, vMul w2, vMul w3, lt, vDiv b0 d1]
theorem unknown_forth {S B : List D} {j g a b : Int} (e : ∀ m, gIx (.lst m B) (.int j) = some (.tup [.int a, .int b])) :
    f_Unknown_forth [(Nd.unk j).o, .lst false S, .lst false B, .int g] = .ok (.tup [.int a, .int b]) := by
  simp (disch := decide) only [Nd.o, fl_Unknown_place, f_Unknown_forth, m_Unknown_forth, x_seq, x_seq1, x_seq2, x_seq3, x_seq4, x_seq5, x_seq6, x_nil, x_if, x_if1, x_if2, x_if3, x_ret, x_ret1, x_ret2, x_ret3, x_retN, x_asg, x_asg1, x_asg2, x_asg3, x_asg4, x_asg5, x_gN, x_drop, x_drop1, x_drop2, x_bk, x_ct, x_raise, x_tZ, x_tZ1, x_tZ2, x_tE, x_tE1, x_tE2, x_tE3, x_tAnd, x_tAnd1, x_tAnd2, x_tAnd3, x_tOr, x_tOr1, x_tOr2, x_tOr3, x_tNot, x_tNot1, x_tNot2, x_tNot3, x_tTrue, x_z2, x_z21, x_z1, x_z11, x_zC, x_zC1, x_za, x_za1, x_za0, x_zV, x_zK, x_ch, x_ch1, x_ch2, x_eZ, x_eZ1, x_eZ2, x_eV, x_eV1, x_eM, x_eM1, x_b1, x_b2, x_b3, x_s1, x_s2, x_s3, x_oO, x_oO2, x_e2, x_e1, x_eC, x_aN, x_aC, x_tup, x_lst, x_call, x_oC1, x_oC2, x_call0, x_call01, x_eAnd, x_eAnd1, x_eOr, x_eOr1, x_eNot, x_eNot1, x_eIf, x_eIf1, x_fz_int, x_fr_int, x_fz_bl, x_fr_bl, x_fz_str, x_fr_str, x_fz_ty, x_fr_ty, x_fz_tup, x_fr_tup, x_fz_cst, x_fr_cst, x_fz_lst_false, x_fr_lst_false, x_fz_non, x_fr_non, x_fz_lt, x_fr_lt, x_fL0, x_fL1, x_cF, x_cR1, x_cR2, x_cR3, x_iL, x_iL1, x_iT, x_iT1, x_iS, x_iS1, x_iR1, x_iR11, x_iR2, x_iR21, x_iE, x_iE1, x_iV, x_iV1, x_iZ, x_iZ1, x_for, x_fo0, x_fo1, x_fo2, x_fo3, x_fo4, x_fo5, x_fo6, x_fo7, x_gT, x_gC, x_gC0, x_try, x_try1, x_try2, x_try3, x_try4, x_try5, x_nx1, x_nx2, x_try6, x_try7, x_nx3, x_nx4, x_app, x_app1, x_app2, x_lc, x_lcE, x_lc0, x_lc1, x_lcG, x_w0, x_w1, vMinL4, vMaxL4, vAll3, vAny3, vAll4, vAny4, x_wh1, x_wh2, x_wh0, x_abs, vI_ii, vI_ib, vI_it, vI_il, vI_is, vI_bb, vI_bi, vI_tt, vI_tl, vI_ti, vI_ll, vI_lt, vI_ss, vEqB, vNeB, x_ta, x_ta1, x_ta2, x_ta3, x_ta4, x_ta5, x_is, nc_0, nc_1, nc_2, nc_3, nc_4, nc_5, nc_6, nc_7, nc_8, nc_9, nc_10, nc_11, vMax2, vMin2, vIsN0, vIsN1, vNotN0, vNotN1, vIsN2, vNotN2, x_lo, x_lo1, x_lo2, vAll2, vAny2, x_sl, x_sl1, x_sl2, x_pn, x_ps, x_ps1, x_cutL, x_cutC, vEqS, vNeS, x_fz_obj, x_fr_obj, x_make, x_meth, x_meth2, x_meth3, x_isO, x_isO1, x_cat, x_cat1, x_methZ, x_methZ2, x_methZ3, x_callZ, x_callZ1, x_lend1, x_lend2, x_cl_int, x_cl_bl, x_cl_str, x_cl_non, x_cl_tup, x_cl0, x_cl1, x_cl_lst, x_setIx, x_setIx1, x_setIx2, x_callI, x_callI1, x_callI2, x_callI3, x_take0, x_take1, x_take2, x_put0, x_put1, x_cFI, x_cRI1, x_cRI2, x_outR, x_outR1, x_out1, x_out2, x_par, x_par1, x_sort, x_sort1, x_sort2, x_io2, x_io4, vIsB, x_pop, x_lr, x_lr1, x_clr, x_clr1, x_clrE, x_clrE1, x_pop1, x_pop2, x_ins, x_ins1, x_ins2, List.all_cons, List.all_nil, Option.isSome_some, Option.map_some, List.getD_cons_zero, List.getD_cons_succ, List.set_cons_zero, List.set_cons_succ, List.map_cons, List.map_nil, List.replicate_zero, List.replicate_succ, List.length_cons, List.length_nil, List.cons_append, List.nil_append, Option.bind_some, if_true, if_false, Bool.false_eq_true, Nat.reduceSub, Nat.reduceAdd, Nat.reduceLeDiff, Nat.reduceLT, vAdd, vSub, vLt, vLe, vGt, vGe, vNeg, vEq, vNe, vEq2, vNe2, vMod, vDiv, vMul, vPow, Int.reduceToNat, vIx0, vIx1, vLenT, vLenC, vLenL, reduceIte, decide_true, decide_false, Bool.not_true, Bool.not_false, beq_self_eq_true, Bool.and_true, Bool.true_and, Bool.and_self, Bool.and_false, Bool.false_and, e]
theorem plus_forth {S B : List D} {i j g a b c d : Int} (e1 : ∀ m, gIx (.lst m S) (.int i) = some (.tup [.int a, .int b])) (e2 : ∀ m, gIx (.lst m S) (.int j) = some (.tup [.int c, .int d])) :
    f_Plus_forth [(Nd.plus i j).o, .lst false S, .lst false B, .int g] = .ok (.tup [.int (a + c), .int (b + d)]) := by
  simp (disch := decide) only [Nd.o, fl_Plus_one, fl_Plus_other, f_Plus_forth, m_Plus_forth, f_add_spans, m_add_spans, x_seq, x_seq1, x_seq2, x_seq3, x_seq4, x_seq5, x_seq6, x_nil, x_if, x_if1, x_if2, x_if3, x_ret, x_ret1, x_ret2, x_ret3, x_retN, x_asg, x_asg1, x_asg2, x_asg3, x_asg4, x_asg5, x_gN, x_drop, x_drop1, x_drop2, x_bk, x_ct, x_raise, x_tZ, x_tZ1, x_tZ2, x_tE, x_tE1, x_tE2, x_tE3, x_tAnd, x_tAnd1, x_tAnd2, x_tAnd3, x_tOr, x_tOr1, x_tOr2, x_tOr3, x_tNot, x_tNot1, x_tNot2, x_tNot3, x_tTrue, x_z2, x_z21, x_z1, x_z11, x_zC, x_zC1, x_za, x_za1, x_za0, x_zV, x_zK, x_ch, x_ch1, x_ch2, x_eZ, x_eZ1, x_eZ2, x_eV, x_eV1, x_eM, x_eM1, x_b1, x_b2, x_b3, x_s1, x_s2, x_s3, x_oO, x_oO2, x_e2, x_e1, x_eC, x_aN, x_aC, x_tup, x_lst, x_call, x_oC1, x_oC2, x_call0, x_call01, x_eAnd, x_eAnd1, x_eOr, x_eOr1, x_eNot, x_eNot1, x_eIf, x_eIf1, x_fz_int, x_fr_int, x_fz_bl, x_fr_bl, x_fz_str, x_fr_str, x_fz_ty, x_fr_ty, x_fz_tup, x_fr_tup, x_fz_cst, x_fr_cst, x_fz_lst_false, x_fr_lst_false, x_fz_non, x_fr_non, x_fz_lt, x_fr_lt, x_fL0, x_fL1, x_cF, x_cR1, x_cR2, x_cR3, x_iL, x_iL1, x_iT, x_iT1, x_iS, x_iS1, x_iR1, x_iR11, x_iR2, x_iR21, x_iE, x_iE1, x_iV, x_iV1, x_iZ, x_iZ1, x_for, x_fo0, x_fo1, x_fo2, x_fo3, x_fo4, x_fo5, x_fo6, x_fo7, x_gT, x_gC, x_gC0, x_try, x_try1, x_try2, x_try3, x_try4, x_try5, x_nx1, x_nx2, x_try6, x_try7, x_nx3, x_nx4, x_app, x_app1, x_app2, x_lc, x_lcE, x_lc0, x_lc1, x_lcG, x_w0, x_w1, vMinL4, vMaxL4, vAll3, vAny3, vAll4, vAny4, x_wh1, x_wh2, x_wh0, x_abs, vI_ii, vI_ib, vI_it, vI_il, vI_is, vI_bb, vI_bi, vI_tt, vI_tl, vI_ti, vI_ll, vI_lt, vI_ss, vEqB, vNeB, x_ta, x_ta1, x_ta2, x_ta3, x_ta4, x_ta5, x_is, nc_0, nc_1, nc_2, nc_3, nc_4, nc_5, nc_6, nc_7, nc_8, nc_9, nc_10, nc_11, vMax2, vMin2, vIsN0, vIsN1, vNotN0, vNotN1, vIsN2, vNotN2, x_lo, x_lo1, x_lo2, vAll2, vAny2, x_sl, x_sl1, x_sl2, x_pn, x_ps, x_ps1, x_cutL, x_cutC, vEqS, vNeS, x_fz_obj, x_fr_obj, x_make, x_meth, x_meth2, x_meth3, x_isO, x_isO1, x_cat, x_cat1, x_methZ, x_methZ2, x_methZ3, x_callZ, x_callZ1, x_lend1, x_lend2, x_cl_int, x_cl_bl, x_cl_str, x_cl_non, x_cl_tup, x_cl0, x_cl1, x_cl_lst, x_setIx, x_setIx1, x_setIx2, x_callI, x_callI1, x_callI2, x_callI3, x_take0, x_take1, x_take2, x_put0, x_put1, x_cFI, x_cRI1, x_cRI2, x_outR, x_outR1, x_out1, x_out2, x_par, x_par1, x_sort, x_sort1, x_sort2, x_io2, x_io4, vIsB, x_pop, x_lr, x_lr1, x_clr, x_clr1, x_clrE, x_clrE1, x_pop1, x_pop2, x_ins, x_ins1, x_ins2, List.all_cons, List.all_nil, Option.isSome_some, Option.map_some, List.getD_cons_zero, List.getD_cons_succ, List.set_cons_zero, List.set_cons_succ, List.map_cons, List.map_nil, List.replicate_zero, List.replicate_succ, List.length_cons, List.length_nil, List.cons_append, List.nil_append, Option.bind_some, if_true, if_false, Bool.false_eq_true, Nat.reduceSub, Nat.reduceAdd, Nat.reduceLeDiff, Nat.reduceLT, vAdd, vSub, vLt, vLe, vGt, vGe, vNeg, vEq, vNe, vEq2, vNe2, vMod, vDiv, vMul, vPow, Int.reduceToNat, vIx0, vIx1, vLenT, vLenC, vLenL, reduceIte, decide_true, decide_false, Bool.not_true, Bool.not_false, beq_self_eq_true, Bool.and_true, Bool.true_and, Bool.and_self, Bool.and_false, Bool.false_and, e1, e2]
theorem minus_forth {S B : List D} {i j g a b c d : Int} (e1 : ∀ m, gIx (.lst m S) (.int i) = some (.tup [.int a, .int b])) (e2 : ∀ m, gIx (.lst m S) (.int j) = some (.tup [.int c, .int d])) :
    f_Minus_forth [(Nd.minus i j).o, .lst false S, .lst false B, .int g] = .ok (.tup [.int (a - d), .int (b - c)]) := by
  simp (disch := decide) only [Nd.o, fl_Minus_one, fl_Minus_other, f_Minus_forth, m_Minus_forth, f_take_spans, m_take_spans, x_seq, x_seq1, x_seq2, x_seq3, x_seq4, x_seq5, x_seq6, x_nil, x_if, x_if1, x_if2, x_if3, x_ret, x_ret1, x_ret2, x_ret3, x_retN, x_asg, x_asg1, x_asg2, x_asg3, x_asg4, x_asg5, x_gN, x_drop, x_drop1, x_drop2, x_bk, x_ct, x_raise, x_tZ, x_tZ1, x_tZ2, x_tE, x_tE1, x_tE2, x_tE3, x_tAnd, x_tAnd1, x_tAnd2, x_tAnd3, x_tOr, x_tOr1, x_tOr2, x_tOr3, x_tNot, x_tNot1, x_tNot2, x_tNot3, x_tTrue, x_z2, x_z21, x_z1, x_z11, x_zC, x_zC1, x_za, x_za1, x_za0, x_zV, x_zK, x_ch, x_ch1, x_ch2, x_eZ, x_eZ1, x_eZ2, x_eV, x_eV1, x_eM, x_eM1, x_b1, x_b2, x_b3, x_s1, x_s2, x_s3, x_oO, x_oO2, x_e2, x_e1, x_eC, x_aN, x_aC, x_tup, x_lst, x_call, x_oC1, x_oC2, x_call0, x_call01, x_eAnd, x_eAnd1, x_eOr, x_eOr1, x_eNot, x_eNot1, x_eIf, x_eIf1, x_fz_int, x_fr_int, x_fz_bl, x_fr_bl, x_fz_str, x_fr_str, x_fz_ty, x_fr_ty, x_fz_tup, x_fr_tup, x_fz_cst, x_fr_cst, x_fz_lst_false, x_fr_lst_false, x_fz_non, x_fr_non, x_fz_lt, x_fr_lt, x_fL0, x_fL1, x_cF, x_cR1, x_cR2, x_cR3, x_iL, x_iL1, x_iT, x_iT1, x_iS, x_iS1, x_iR1, x_iR11, x_iR2, x_iR21, x_iE, x_iE1, x_iV, x_iV1, x_iZ, x_iZ1, x_for, x_fo0, x_fo1, x_fo2, x_fo3, x_fo4, x_fo5, x_fo6, x_fo7, x_gT, x_gC, x_gC0, x_try, x_try1, x_try2, x_try3, x_try4, x_try5, x_nx1, x_nx2, x_try6, x_try7, x_nx3, x_nx4, x_app, x_app1, x_app2, x_lc, x_lcE, x_lc0, x_lc1, x_lcG, x_w0, x_w1, vMinL4, vMaxL4, vAll3, vAny3, vAll4, vAny4, x_wh1, x_wh2, x_wh0, x_abs, vI_ii, vI_ib, vI_it, vI_il, vI_is, vI_bb, vI_bi, vI_tt, vI_tl, vI_ti, vI_ll, vI_lt, vI_ss, vEqB, vNeB, x_ta, x_ta1, x_ta2, x_ta3, x_ta4, x_ta5, x_is, nc_0, nc_1, nc_2, nc_3, nc_4, nc_5, nc_6, nc_7, nc_8, nc_9, nc_10, nc_11, vMax2, vMin2, vIsN0, vIsN1, vNotN0, vNotN1, vIsN2, vNotN2, x_lo, x_lo1, x_lo2, vAll2, vAny2, x_sl, x_sl1, x_sl2, x_pn, x_ps, x_ps1, x_cutL, x_cutC, vEqS, vNeS, x_fz_obj, x_fr_obj, x_make, x_meth, x_meth2, x_meth3, x_isO, x_isO1, x_cat, x_cat1, x_methZ, x_methZ2, x_methZ3, x_callZ, x_callZ1, x_lend1, x_lend2, x_cl_int, x_cl_bl, x_cl_str, x_cl_non, x_cl_tup, x_cl0, x_cl1, x_cl_lst, x_setIx, x_setIx1, x_setIx2, x_callI, x_callI1, x_callI2, x_callI3, x_take0, x_take1, x_take2, x_put0, x_put1, x_cFI, x_cRI1, x_cRI2, x_outR, x_outR1, x_out1, x_out2, x_par, x_par1, x_sort, x_sort1, x_sort2, x_io2, x_io4, vIsB, x_pop, x_lr, x_lr1, x_clr, x_clr1, x_clrE, x_clrE1, x_pop1, x_pop2, x_ins, x_ins1, x_ins2, List.all_cons, List.all_nil, Option.isSome_some, Option.map_some, List.getD_cons_zero, List.getD_cons_succ, List.set_cons_zero, List.set_cons_succ, List.map_cons, List.map_nil, List.replicate_zero, List.replicate_succ, List.length_cons, List.length_nil, List.cons_append, List.nil_append, Option.bind_some, if_true, if_false, Bool.false_eq_true, Nat.reduceSub, Nat.reduceAdd, Nat.reduceLeDiff, Nat.reduceLT, vAdd, vSub, vLt, vLe, vGt, vGe, vNeg, vEq, vNe, vEq2, vNe2, vMod, vDiv, vMul, vPow, Int.reduceToNat, vIx0, vIx1, vLenT, vLenC, vLenL, reduceIte, decide_true, decide_false, Bool.not_true, Bool.not_false, beq_self_eq_true, Bool.and_true, Bool.true_and, Bool.and_self, Bool.and_false, Bool.false_and, e1, e2]
theorem times_forth {S B : List D} {i j g a b c d : Int} (e1 : ∀ m, gIx (.lst m S) (.int i) = some (.tup [.int a, .int b])) (e2 : ∀ m, gIx (.lst m S) (.int j) = some (.tup [.int c, .int d]))
    (g1 : 1 ≤ g) (gb : g.natAbs < 2 ^ 60) (ha : a.natAbs < 2 ^ 1000) (hb : b.natAbs < 2 ^ 1000) (hc : c.natAbs < 2 ^ 1000) (hd : d.natAbs < 2 ^ 1000) : 
    f_Times_forth [(Nd.times i j).o, .lst false S, .lst false B, .int g] = .ok (spD (mulS (a, b) (c, d) g)) := by
  have w1 : L2.CMulW a c := mulW 1000 1000 ha hc (by decide)
  have w2 : L2.CMulW a d := mulW 1000 1000 ha hd (by decide)
  have w3 : L2.CMulW b c := mulW 1000 1000 hb hc (by decide)
  have w4 : L2.CMulW b d := mulW 1000 1000 hb hd (by decide)
  have d1 : g.natAbs.log2 < 9000 := by have := log2_le gb; omega
  have g0 : 0 < g := by omega
  simp (disch := decide) only [spD, mulS, Nd.o, fl_Times_one, fl_Times_other, f_Times_forth, m_Times_forth, f_mul_spans, m_mul_spans, x_seq, x_seq1, x_seq2, x_seq3, x_seq4, x_seq5, x_seq6, x_nil, x_if, x_if1, x_if2, x_if3, x_ret, x_ret1, x_ret2, x_ret3, x_retN, x_asg, x_asg1, x_asg2, x_asg3, x_asg4, x_asg5, x_gN, x_drop, x_drop1, x_drop2, x_bk, x_ct, x_raise, x_tZ, x_tZ1, x_tZ2, x_tE, x_tE1, x_tE2, x_tE3, x_tAnd, x_tAnd1, x_tAnd2, x_tAnd3, x_tOr, x_tOr1, x_tOr2, x_tOr3, x_tNot, x_tNot1, x_tNot2, x_tNot3, x_tTrue, x_z2, x_z21, x_z1, x_z11, x_zC, x_zC1, x_za, x_za1, x_za0, x_zV, x_zK, x_ch, x_ch1, x_ch2, x_eZ, x_eZ1, x_eZ2, x_eV, x_eV1, x_eM, x_eM1, x_b1, x_b2, x_b3, x_s1, x_s2, x_s3, x_oO, x_oO2, x_e2, x_e1, x_eC, x_aN, x_aC, x_tup, x_lst, x_call, x_oC1, x_oC2, x_call0, x_call01, x_eAnd, x_eAnd1, x_eOr, x_eOr1, x_eNot, x_eNot1, x_eIf, x_eIf1, x_fz_int, x_fr_int, x_fz_bl, x_fr_bl, x_fz_str, x_fr_str, x_fz_ty, x_fr_ty, x_fz_tup, x_fr_tup, x_fz_cst, x_fr_cst, x_fz_lst_false, x_fr_lst_false, x_fz_non, x_fr_non, x_fz_lt, x_fr_lt, x_fL0, x_fL1, x_cF, x_cR1, x_cR2, x_cR3, x_iL, x_iL1, x_iT, x_iT1, x_iS, x_iS1, x_iR1, x_iR11, x_iR2, x_iR21, x_iE, x_iE1, x_iV, x_iV1, x_iZ, x_iZ1, x_for, x_fo0, x_fo1, x_fo2, x_fo3, x_fo4, x_fo5, x_fo6, x_fo7, x_gT, x_gC, x_gC0, x_try, x_try1, x_try2, x_try3, x_try4, x_try5, x_nx1, x_nx2, x_try6, x_try7, x_nx3, x_nx4, x_app, x_app1, x_app2, x_lc, x_lcE, x_lc0, x_lc1, x_lcG, x_w0, x_w1, vMinL4, vMaxL4, vAll3, vAny3, vAll4, vAny4, x_wh1, x_wh2, x_wh0, x_abs, vI_ii, vI_ib, vI_it, vI_il, vI_is, vI_bb, vI_bi, vI_tt, vI_tl, vI_ti, vI_ll, vI_lt, vI_ss, vEqB, vNeB, x_ta, x_ta1, x_ta2, x_ta3, x_ta4, x_ta5, x_is, nc_0, nc_1, nc_2, nc_3, nc_4, nc_5, nc_6, nc_7, nc_8, nc_9, nc_10, nc_11, vMax2, vMin2, vIsN0, vIsN1, vNotN0, vNotN1, vIsN2, vNotN2, x_lo, x_lo1, x_lo2, vAll2, vAny2, x_sl, x_sl1, x_sl2, x_pn, x_ps, x_ps1, x_cutL, x_cutC, vEqS, vNeS, x_fz_obj, x_fr_obj, x_make, x_meth, x_meth2, x_meth3, x_isO, x_isO1, x_cat, x_cat1, x_methZ, x_methZ2, x_methZ3, x_callZ, x_callZ1, x_lend1, x_lend2, x_cl_int, x_cl_bl, x_cl_str, x_cl_non, x_cl_tup, x_cl0, x_cl1, x_cl_lst, x_setIx, x_setIx1, x_setIx2, x_callI, x_callI1, x_callI2, x_callI3, x_take0, x_take1, x_take2, x_put0, x_put1, x_cFI, x_cRI1, x_cRI2, x_outR, x_outR1, x_out1, x_out2, x_par, x_par1, x_sort, x_sort1, x_sort2, x_io2, x_io4, vIsB, x_pop, x_lr, x_lr1, x_clr, x_clr1, x_clrE, x_clrE1, x_pop1, x_pop2, x_ins, x_ins1, x_ins2, List.all_cons, List.all_nil, Option.isSome_some, Option.map_some, List.getD_cons_zero, List.getD_cons_succ, List.set_cons_zero, List.set_cons_succ, List.map_cons, List.map_nil, List.replicate_zero, List.replicate_succ, List.length_cons, List.length_nil, List.cons_append, List.nil_append, Option.bind_some, if_true, if_false, Bool.false_eq_true, Nat.reduceSub, Nat.reduceAdd, Nat.reduceLeDiff, Nat.reduceLT, vAdd, vSub, vLt, vLe, vGt, vGe, vNeg, vEq, vNe, vEq2, vNe2, vMod, vDiv, vMul, vPow, Int.reduceToNat, vIx0, vIx1, vLenT, vLenC, vLenL, reduceIte, decide_true, decide_false, Bool.not_true, Bool.not_false, beq_self_eq_true, Bool.and_true, Bool.true_and, Bool.and_self, Bool.and_false, Bool.false_and, e1, e2, vMul w1, vMul w2, vMul w3, vMul w4, vDiv g0 d1]
theorem vMinL2 (m : Bool) (a b : Int) : gMinL [.lst m [.int a, .int b]] = some (.int (mnI a b)) := rfl
theorem vMaxL2 (m : Bool) (a b : Int) : gMaxL [.lst m [.int a, .int b]] = some (.int (mxI a b)) := rfl
theorem power_forth {S B : List D} {i k g a b : Int} (e1 : ∀ m, gIx (.lst m S) (.int i) = some (.tup [.int a, .int b]))
    (ab : a ≤ b) (k2 : 2 ≤ k) (k6 : k ≤ 6) (g1 : 1 ≤ g) (gb : g.natAbs < 2 ^ 60) (ha : a.natAbs < 2 ^ 1000) (hb : b.natAbs < 2 ^ 1000) : 
    f_Power_forth [(Nd.pow i k).o, .lst false S, .lst false B, .int g] = .ok (spD (powS (a, b) k.toNat g)) := by
  obtain ⟨n, hn⟩ : ∃ n, k.toNat = n := ⟨_, rfl⟩
  have mg := mult_j (w := 60) (j := k - 1) (by decide) gb (n - 1) (by omega) (by omega) (by omega) (by omega)
  have ma := mult_j (w := 1000) (j := k) (by decide) ha n (by omega) (by omega) (by omega) (by omega)
  have mb := mult_j (w := 1000) (j := k) (by decide) hb n (by omega) (by omega) (by omega) (by omega)
  have s0 : 0 < g ^ (n - 1) := Int.pow_pos (by omega)
  have s1 : (g ^ (n - 1)).natAbs.log2 < 9000 := by
    have h1 := log2_le (pow_size gb (n - 1))
    have : n - 1 ≤ 5 := by omega
    have := Nat.mul_le_mul_left 60 this
    omega
  have par : (k % 2 == 0) = decide (n % 2 = 0) := by
    by_cases h : n % 2 = 0
    · rw [decide_eq_true h]; simp; omega
    · rw [decide_eq_false h]; simp; omega
  have nz : n ≠ 0 := by omega
  have hev : n % 2 = 0 → a ≤ 0 → 0 ≤ b → ¬(a < 0 ∧ 0 < b) → mnI (a ^ n) (b ^ n) = 0 := fun h h1 h2 h3 => by
    have z0 : (0 : Int) ^ n = 0 := Int.zero_pow nz
    have a0 := pow_even_nonneg a h
    have b0 := pow_even_nonneg b h
    have key : ∀ x y : Int, 0 ≤ x → 0 ≤ y → (x = 0 ∨ y = 0) → mnI x y = 0 := by
      intro x y hx hy h
      have := mnI_le x y
      omega
    refine key _ _ a0 b0 ?_
    rcases (by omega : a = 0 ∨ b = 0) with r | r
    · exact .inl (by rw [r]; exact z0)
    · exact .inr (by rw [r]; exact z0)
  generalize hA : a ^ n = A at *
  generalize hB : b ^ n = B' at *
  generalize hG : g ^ (n - 1) = G at *
  have ok1 : ∀ l : Int, (if (decide (n % 2 = 0) && (decide (a < 0) && decide (0 < b))) = true then (0 : Int) else mnI A B') = l → f_Power_forth [(Nd.pow i k).o, .lst false S, .lst false B, .int g] = .ok (.tup [.int (l / G), .int (-(-mxI A B' / G))]) := fun l hl => by
    cases q1 : decide (n % 2 = 0) <;> cases q2 : decide (a < 0) <;> cases q3 : decide (0 < b) <;> rw [q1, q2, q3] at hl <;> simp only [Bool.and_true, Bool.and_false, Bool.true_and, Bool.false_and, Bool.and_self, Bool.false_eq_true, if_false, if_true] at hl <;> subst hl <;>
      simp (disch := decide) only [Nd.o, fl_Power_one, fl_Power_many, f_Power_forth, m_Power_forth, f_raise_span, m_raise_span, x_seq, x_seq1, x_seq2, x_seq3, x_seq4, x_seq5, x_seq6, x_nil, x_if, x_if1, x_if2, x_if3, x_ret, x_ret1, x_ret2, x_ret3, x_retN, x_asg, x_asg1, x_asg2, x_asg3, x_asg4, x_asg5, x_gN, x_drop, x_drop1, x_drop2, x_bk, x_ct, x_raise, x_tZ, x_tZ1, x_tZ2, x_tE, x_tE1, x_tE2, x_tE3, x_tAnd, x_tAnd1, x_tAnd2, x_tAnd3, x_tOr, x_tOr1, x_tOr2, x_tOr3, x_tNot, x_tNot1, x_tNot2, x_tNot3, x_tTrue, x_z2, x_z21, x_z1, x_z11, x_zC, x_zC1, x_za, x_za1, x_za0, x_zV, x_zK, x_ch, x_ch1, x_ch2, x_eZ, x_eZ1, x_eZ2, x_eV, x_eV1, x_eM, x_eM1, x_b1, x_b2, x_b3, x_s1, x_s2, x_s3, x_oO, x_oO2, x_e2, x_e1, x_eC, x_aN, x_aC, x_tup, x_lst, x_call, x_oC1, x_oC2, x_call0, x_call01, x_eAnd, x_eAnd1, x_eOr, x_eOr1, x_eNot, x_eNot1, x_eIf, x_eIf1, x_fz_int, x_fr_int, x_fz_bl, x_fr_bl, x_fz_str, x_fr_str, x_fz_ty, x_fr_ty, x_fz_tup, x_fr_tup, x_fz_cst, x_fr_cst, x_fz_lst_false, x_fr_lst_false, x_fz_non, x_fr_non, x_fz_lt, x_fr_lt, x_fL0, x_fL1, x_cF, x_cR1, x_cR2, x_cR3, x_iL, x_iL1, x_iT, x_iT1, x_iS, x_iS1, x_iR1, x_iR11, x_iR2, x_iR21, x_iE, x_iE1, x_iV, x_iV1, x_iZ, x_iZ1, x_for, x_fo0, x_fo1, x_fo2, x_fo3, x_fo4, x_fo5, x_fo6, x_fo7, x_gT, x_gC, x_gC0, x_try, x_try1, x_try2, x_try3, x_try4, x_try5, x_nx1, x_nx2, x_try6, x_try7, x_nx3, x_nx4, x_app, x_app1, x_app2, x_lc, x_lcE, x_lc0, x_lc1, x_lcG, x_w0, x_w1, vMinL4, vMaxL4, vAll3, vAny3, vAll4, vAny4, x_wh1, x_wh2, x_wh0, x_abs, vI_ii, vI_ib, vI_it, vI_il, vI_is, vI_bb, vI_bi, vI_tt, vI_tl, vI_ti, vI_ll, vI_lt, vI_ss, vEqB, vNeB, x_ta, x_ta1, x_ta2, x_ta3, x_ta4, x_ta5, x_is, nc_0, nc_1, nc_2, nc_3, nc_4, nc_5, nc_6, nc_7, nc_8, nc_9, nc_10, nc_11, vMax2, vMin2, vIsN0, vIsN1, vNotN0, vNotN1, vIsN2, vNotN2, x_lo, x_lo1, x_lo2, vAll2, vAny2, x_sl, x_sl1, x_sl2, x_pn, x_ps, x_ps1, x_cutL, x_cutC, vEqS, vNeS, x_fz_obj, x_fr_obj, x_make, x_meth, x_meth2, x_meth3, x_isO, x_isO1, x_cat, x_cat1, x_methZ, x_methZ2, x_methZ3, x_callZ, x_callZ1, x_lend1, x_lend2, x_cl_int, x_cl_bl, x_cl_str, x_cl_non, x_cl_tup, x_cl0, x_cl1, x_cl_lst, x_setIx, x_setIx1, x_setIx2, x_callI, x_callI1, x_callI2, x_callI3, x_take0, x_take1, x_take2, x_put0, x_put1, x_cFI, x_cRI1, x_cRI2, x_outR, x_outR1, x_out1, x_out2, x_par, x_par1, x_sort, x_sort1, x_sort2, x_io2, x_io4, vIsB, x_pop, x_lr, x_lr1, x_clr, x_clr1, x_clrE, x_clrE1, x_pop1, x_pop2, x_ins, x_ins1, x_ins2, List.all_cons, List.all_nil, Option.isSome_some, Option.map_some, List.getD_cons_zero, List.getD_cons_succ, List.set_cons_zero, List.set_cons_succ, List.map_cons, List.map_nil, List.replicate_zero, List.replicate_succ, List.length_cons, List.length_nil, List.cons_append, List.nil_append, Option.bind_some, if_true, if_false, Bool.false_eq_true, Nat.reduceSub, Nat.reduceAdd, Nat.reduceLeDiff, Nat.reduceLT, vAdd, vSub, vLt, vLe, vGt, vGe, vNeg, vEq, vNe, vEq2, vNe2, vMod, vDiv, vMul, vPow, Int.reduceToNat, vIx0, vIx1, vLenT, vLenC, vLenL, reduceIte, decide_true, decide_false, Bool.not_true, Bool.not_false, beq_self_eq_true, Bool.and_true, Bool.true_and, Bool.and_self, Bool.and_false, Bool.false_and, e1, mg, ma, mb, par, q1, q2, q3, vDiv s0 s1]
  have and3 : ∀ {P Q R : Prop} [Decidable P] [Decidable Q] [Decidable R], (decide P && (decide Q && decide R)) = true ↔ P ∧ Q ∧ R := by intro P Q R _ _ _; simp
  have hlow : (if (decide (n % 2 = 0) && (decide (a < 0) && decide (0 < b))) = true then (0 : Int) else mnI A B') = lowP a b n ∧ (if (decide (n % 2 = 0) && (decide (a ≤ 0) && decide (0 ≤ b))) = true then (0 : Int) else mnI A B') = lowP a b n := by
    have e2 : (if (decide (n % 2 = 0) && (decide (a ≤ 0) && decide (0 ≤ b))) = true then (0 : Int) else mnI A B') = lowP a b n := by
      unfold lowP
      rw [hA, hB]
      by_cases q3 : n % 2 = 0 ∧ a ≤ 0 ∧ 0 ≤ b
      · rw [if_pos (and3.mpr q3), if_pos q3]
      · rw [if_neg (fun z => q3 (and3.mp z)), if_neg q3]
    refine ⟨?_, e2⟩
    rw [← e2]
    by_cases q : n % 2 = 0 ∧ a < 0 ∧ 0 < b
    · rw [if_pos (and3.mpr q), if_pos (and3.mpr ⟨q.1, Int.le_of_lt q.2.1, Int.le_of_lt q.2.2⟩)]
    · rw [if_neg (fun z => q (and3.mp z))]
      by_cases q3 : n % 2 = 0 ∧ a ≤ 0 ∧ 0 ≤ b
      · rw [if_pos (and3.mpr q3), hev q3.1 q3.2.1 q3.2.2 (fun z => q ⟨q3.1, z⟩)]
      · rw [if_neg (fun z => q3 (and3.mp z))]
  have e0 : powS (a, b) k.toNat g = (lowP a b n / G, -(-mxI A B' / G)) := by
    unfold powS
    rw [hn]
    show (lowP a b n / g ^ (n - 1), -(-mxI (a ^ n) (b ^ n) / g ^ (n - 1))) = _
    rw [hA, hB, hG]
  rw [e0]
  exact ok1 _ hlow.1
theorem sortI2 (x y : Int) : sortI [x, y] = [mnI x y, mxI x y] := by
  show insI x [y] = _
  unfold insI mnI mxI
  by_cases h : x ≤ y
  · rw [if_pos h, if_neg (by omega)]
    by_cases h2 : y > x
    · rw [if_pos h2]
    · rw [if_neg h2, show x = y by omega]
  · rw [if_neg h, if_pos (by omega), if_neg (by omega)]
    rfl
theorem sortI4 (a b c d : Int) : ∃ u v, sortI [a, b, c, d] = [minI a [b, c, d], u, v, maxI a [b, c, d]] := by
  have hp := sortI_perm [a, b, c, d]
  have hs := sortI_sorted [a, b, c, d]
  have hl := hp.length_eq
  obtain ⟨x, u, v, y, e⟩ : ∃ x u v y, sortI [a, b, c, d] = [x, u, v, y] := by
    match h : sortI [a, b, c, d], hl with
    | [x, u, v, y], _ => exact ⟨x, u, v, y, rfl⟩
  rw [e] at hp hs ⊢
  obtain ⟨m1, m2, m3⟩ := minI_le a [b, c, d]
  obtain ⟨n1, n2, n3⟩ := maxI_le a [b, c, d]
  have mm : minI a [b, c, d] ∈ [x, u, v, y] := hp.mem_iff.mpr (by
    rcases m3 with h | h
    · rw [h]; exact List.mem_cons_self
    · exact List.mem_cons_of_mem _ h)
  have nm : maxI a [b, c, d] ∈ [x, u, v, y] := hp.mem_iff.mpr (by
    rcases n3 with h | h
    · rw [h]; exact List.mem_cons_self
    · exact List.mem_cons_of_mem _ h)
  have lo : ∀ z ∈ [x, u, v, y], minI a [b, c, d] ≤ z := fun z hz => by
    rcases List.mem_cons.mp (hp.mem_iff.mp hz) with rfl | h
    · exact m1
    · exact m2 z h
  have hi : ∀ z ∈ [x, u, v, y], z ≤ maxI a [b, c, d] := fun z hz => by
    rcases List.mem_cons.mp (hp.mem_iff.mp hz) with rfl | h
    · exact n1
    · exact n2 z h
  have lx := lo x (by simp)
  have hy := hi y (by simp)
  clear m1 m2 m3 n1 n2 n3 lo hi
  simp only [List.pairwise_cons, List.mem_cons, List.not_mem_nil, or_false, forall_eq_or_imp, forall_eq] at hs
  simp only [List.mem_cons, List.not_mem_nil, or_false] at mm nm
  obtain ⟨⟨s1, s2, s3⟩, ⟨s4, s5⟩, s6, _⟩ := hs
  have ex : x = minI a [b, c, d] := by rcases mm with h | h | h | h <;> omega
  have ey : y = maxI a [b, c, d] := by rcases nm with h | h | h | h <;> omega
  exact ⟨u, v, by rw [← ex, ← ey]⟩
theorem ixl0 (a b : D) : gIx (.lst true [a, b]) (.int 0) = some a := vIxL_of (k := 0) rfl rfl
theorem ixl1 (a b : D) : gIx (.lst true [a, b]) (.int 1) = some b := vIxL_of (k := 1) rfl rfl
theorem ixq0 (a b c d : D) : gIx (.lst true [a, b, c, d]) (.int 0) = some a := vIxL_of (k := 0) rfl rfl
theorem ixq3 (a b c d : D) : gIx (.lst true [a, b, c, d]) (.int 3) = some d := vIxL_of (k := 3) rfl rfl
theorem set0 (a b d : D) : setD [a, b] 0 d = some [d, b] := vSetD (j := 0) rfl (by simp)
theorem product_ok {a b c d g : Int} (g1 : 1 ≤ g) (gb : g.natAbs < 2 ^ 60) (ha : a.natAbs < 2 ^ 1000) (hb : b.natAbs < 2 ^ 1000) (hc : c.natAbs < 2 ^ 1000) (hd : d.natAbs < 2 ^ 1000) : f__law_product [.tup [.int a, .int b], .tup [.int c, .int d], .int g] = .ok (spD (mulS (a, b) (c, d) g)) := by
  have w1 : L2.CMulW a c := mulW 1000 1000 ha hc (by decide)
  have w2 : L2.CMulW a d := mulW 1000 1000 ha hd (by decide)
  have w3 : L2.CMulW b c := mulW 1000 1000 hb hc (by decide)
  have w4 : L2.CMulW b d := mulW 1000 1000 hb hd (by decide)
  have d1 : g.natAbs.log2 < 9000 := by have := log2_le gb; omega
  have g0 : 0 < g := by omega
  obtain ⟨u, v, e⟩ := sortI4 (a * c) (a * d) (b * c) (b * d)
  clear ha hb hc hd
  simp (disch := decide) only [spD, mulS, f__law_product, m__law_product, x_seq, x_seq1, x_seq2, x_seq3, x_seq4, x_seq5, x_seq6, x_nil, x_if, x_if1, x_if2, x_if3, x_ret, x_ret1, x_ret2, x_ret3, x_retN, x_asg, x_asg1, x_asg2, x_asg3, x_asg4, x_asg5, x_gN, x_drop, x_drop1, x_drop2, x_bk, x_ct, x_raise, x_tZ, x_tZ1, x_tZ2, x_tE, x_tE1, x_tE2, x_tE3, x_tAnd, x_tAnd1, x_tAnd2, x_tAnd3, x_tOr, x_tOr1, x_tOr2, x_tOr3, x_tNot, x_tNot1, x_tNot2, x_tNot3, x_tTrue, x_z2, x_z21, x_z1, x_z11, x_zC, x_zC1, x_za, x_za1, x_za0, x_zV, x_zK, x_ch, x_ch1, x_ch2, x_eZ, x_eZ1, x_eZ2, x_eV, x_eV1, x_eM, x_eM1, x_b1, x_b2, x_b3, x_s1, x_s2, x_s3, x_oO, x_oO2, x_e2, x_e1, x_eC, x_aN, x_aC, x_tup, x_lst, x_call, x_oC1, x_oC2, x_call0, x_call01, x_eAnd, x_eAnd1, x_eOr, x_eOr1, x_eNot, x_eNot1, x_eIf, x_eIf1, x_fz_int, x_fr_int, x_fz_bl, x_fr_bl, x_fz_str, x_fr_str, x_fz_ty, x_fr_ty, x_fz_tup, x_fr_tup, x_fz_cst, x_fr_cst, x_fz_lst_false, x_fr_lst_false, x_fz_non, x_fr_non, x_fz_lt, x_fr_lt, x_fL0, x_fL1, x_cF, x_cR1, x_cR2, x_cR3, x_iL, x_iL1, x_iT, x_iT1, x_iS, x_iS1, x_iR1, x_iR11, x_iR2, x_iR21, x_iE, x_iE1, x_iV, x_iV1, x_iZ, x_iZ1, x_for, x_fo0, x_fo1, x_fo2, x_fo3, x_fo4, x_fo5, x_fo6, x_fo7, x_gT, x_gC, x_gC0, x_try, x_try1, x_try2, x_try3, x_try4, x_try5, x_nx1, x_nx2, x_try6, x_try7, x_nx3, x_nx4, x_app, x_app1, x_app2, x_lc, x_lcE, x_lc0, x_lc1, x_lcG, x_w0, x_w1, vMinL4, vMaxL4, vAll3, vAny3, vAll4, vAny4, x_wh1, x_wh2, x_wh0, x_abs, vI_ii, vI_ib, vI_it, vI_il, vI_is, vI_bb, vI_bi, vI_tt, vI_tl, vI_ti, vI_ll, vI_lt, vI_ss, vEqB, vNeB, x_ta, x_ta1, x_ta2, x_ta3, x_ta4, x_ta5, x_is, nc_0, nc_1, nc_2, nc_3, nc_4, nc_5, nc_6, nc_7, nc_8, nc_9, nc_10, nc_11, vMax2, vMin2, vIsN0, vIsN1, vNotN0, vNotN1, vIsN2, vNotN2, x_lo, x_lo1, x_lo2, vAll2, vAny2, x_sl, x_sl1, x_sl2, x_pn, x_ps, x_ps1, x_cutL, x_cutC, vEqS, vNeS, x_fz_obj, x_fr_obj, x_make, x_meth, x_meth2, x_meth3, x_isO, x_isO1, x_cat, x_cat1, x_methZ, x_methZ2, x_methZ3, x_callZ, x_callZ1, x_lend1, x_lend2, x_cl_int, x_cl_bl, x_cl_str, x_cl_non, x_cl_tup, x_cl0, x_cl1, x_cl_lst, x_setIx, x_setIx1, x_setIx2, x_callI, x_callI1, x_callI2, x_callI3, x_take0, x_take1, x_take2, x_put0, x_put1, x_cFI, x_cRI1, x_cRI2, x_outR, x_outR1, x_out1, x_out2, x_par, x_par1, x_sort, x_sort1, x_sort2, x_io2, x_io4, vIsB, x_pop, x_lr, x_lr1, x_clr, x_clr1, x_clrE, x_clrE1, x_pop1, x_pop2, x_ins, x_ins1, x_ins2, List.all_cons, List.all_nil, Option.isSome_some, Option.map_some, List.getD_cons_zero, List.getD_cons_succ, List.set_cons_zero, List.set_cons_succ, List.map_cons, List.map_nil, List.replicate_zero, List.replicate_succ, List.length_cons, List.length_nil, List.cons_append, List.nil_append, Option.bind_some, if_true, if_false, Bool.false_eq_true, Nat.reduceSub, Nat.reduceAdd, Nat.reduceLeDiff, Nat.reduceLT, vAdd, vSub, vLt, vLe, vGt, vGe, vNeg, vEq, vNe, vEq2, vNe2, vMod, vDiv, vMul, vPow, Int.reduceToNat, vIx0, vIx1, vLenT, vLenC, vLenL, reduceIte, decide_true, decide_false, Bool.not_true, Bool.not_false, beq_self_eq_true, Bool.and_true, Bool.true_and, Bool.and_self, Bool.and_false, Bool.false_and, vMul w1, vMul w2, vMul w3, vMul w4, e, ixq0, ixq3, vDiv g0 d1]
theorem raised_ok {k g a b : Int} (ab : a ≤ b) (k2 : 2 ≤ k) (k6 : k ≤ 6) (g1 : 1 ≤ g) (gb : g.natAbs < 2 ^ 60) (ha : a.natAbs < 2 ^ 1000) (hb : b.natAbs < 2 ^ 1000) :
    f__law_raised [.tup [.int a, .int b], .int k, .int g] = .ok (spD (powS (a, b) k.toNat g)) := by
  obtain ⟨n, hn⟩ : ∃ n, k.toNat = n := ⟨_, rfl⟩
  have pg := lpower_j (w := 60) (j := k - 1) (by decide) gb (n - 1) (by omega) (by omega) (by omega) (by omega)
  have pa := lpower_j (w := 1000) (j := k) (by decide) ha n (by omega) (by omega) (by omega) (by omega)
  have pb := lpower_j (w := 1000) (j := k) (by decide) hb n (by omega) (by omega) (by omega) (by omega)
  have s0 : 0 < g ^ (n - 1) := Int.pow_pos (by omega)
  have s1 : (g ^ (n - 1)).natAbs.log2 < 9000 := by
    have h1 := log2_le (pow_size gb (n - 1))
    have : n - 1 ≤ 5 := by omega
    have := Nat.mul_le_mul_left 60 this
    omega
  have par : (k % 2 == 0) = decide (n % 2 = 0) := by
    by_cases h : n % 2 = 0
    · rw [decide_eq_true h]; simp; omega
    · rw [decide_eq_false h]; simp; omega
  have nz : n ≠ 0 := by omega
  have hev : n % 2 = 0 → a ≤ 0 → 0 ≤ b → ¬(a < 0 ∧ 0 < b) → mnI (a ^ n) (b ^ n) = 0 := fun h h1 h2 h3 => by
    have z0 : (0 : Int) ^ n = 0 := Int.zero_pow nz
    have a0 := pow_even_nonneg a h
    have b0 := pow_even_nonneg b h
    have key : ∀ x y : Int, 0 ≤ x → 0 ≤ y → (x = 0 ∨ y = 0) → mnI x y = 0 := by
      intro x y hx hy h
      have := mnI_le x y
      omega
    refine key _ _ a0 b0 ?_
    rcases (by omega : a = 0 ∨ b = 0) with r | r
    · exact .inl (by rw [r]; exact z0)
    · exact .inr (by rw [r]; exact z0)
  have srt := sortI2 (a ^ n) (b ^ n)
  generalize hA : a ^ n = A at *
  generalize hB : b ^ n = B' at *
  generalize hG : g ^ (n - 1) = G at *
  clear ha hb gb
  have ok1 : ∀ l : Int, (if (decide (n % 2 = 0) && (decide (a < 0) && decide (0 < b))) = true then (0 : Int) else mnI A B') = l → f__law_raised [.tup [.int a, .int b], .int k, .int g] = .ok (.tup [.int (l / G), .int (-(-mxI A B' / G))]) := fun l hl => by
    cases q1 : decide (n % 2 = 0) <;> cases q2 : decide (a < 0) <;> cases q3 : decide (0 < b) <;> rw [q1, q2, q3] at hl <;> simp only [Bool.and_true, Bool.and_false, Bool.true_and, Bool.false_and, Bool.and_self, Bool.false_eq_true, if_false, if_true] at hl <;> subst hl <;>
      simp (disch := decide) only [f__law_raised, m__law_raised, x_seq, x_seq1, x_seq2, x_seq3, x_seq4, x_seq5, x_seq6, x_nil, x_if, x_if1, x_if2, x_if3, x_ret, x_ret1, x_ret2, x_ret3, x_retN, x_asg, x_asg1, x_asg2, x_asg3, x_asg4, x_asg5, x_gN, x_drop, x_drop1, x_drop2, x_bk, x_ct, x_raise, x_tZ, x_tZ1, x_tZ2, x_tE, x_tE1, x_tE2, x_tE3, x_tAnd, x_tAnd1, x_tAnd2, x_tAnd3, x_tOr, x_tOr1, x_tOr2, x_tOr3, x_tNot, x_tNot1, x_tNot2, x_tNot3, x_tTrue, x_z2, x_z21, x_z1, x_z11, x_zC, x_zC1, x_za, x_za1, x_za0, x_zV, x_zK, x_ch, x_ch1, x_ch2, x_eZ, x_eZ1, x_eZ2, x_eV, x_eV1, x_eM, x_eM1, x_b1, x_b2, x_b3, x_s1, x_s2, x_s3, x_oO, x_oO2, x_e2, x_e1, x_eC, x_aN, x_aC, x_tup, x_lst, x_call, x_oC1, x_oC2, x_call0, x_call01, x_eAnd, x_eAnd1, x_eOr, x_eOr1, x_eNot, x_eNot1, x_eIf, x_eIf1, x_fz_int, x_fr_int, x_fz_bl, x_fr_bl, x_fz_str, x_fr_str, x_fz_ty, x_fr_ty, x_fz_tup, x_fr_tup, x_fz_cst, x_fr_cst, x_fz_lst_false, x_fr_lst_false, x_fz_non, x_fr_non, x_fz_lt, x_fr_lt, x_fL0, x_fL1, x_cF, x_cR1, x_cR2, x_cR3, x_iL, x_iL1, x_iT, x_iT1, x_iS, x_iS1, x_iR1, x_iR11, x_iR2, x_iR21, x_iE, x_iE1, x_iV, x_iV1, x_iZ, x_iZ1, x_for, x_fo0, x_fo1, x_fo2, x_fo3, x_fo4, x_fo5, x_fo6, x_fo7, x_gT, x_gC, x_gC0, x_try, x_try1, x_try2, x_try3, x_try4, x_try5, x_nx1, x_nx2, x_try6, x_try7, x_nx3, x_nx4, x_app, x_app1, x_app2, x_lc, x_lcE, x_lc0, x_lc1, x_lcG, x_w0, x_w1, vMinL4, vMaxL4, vAll3, vAny3, vAll4, vAny4, x_wh1, x_wh2, x_wh0, x_abs, vI_ii, vI_ib, vI_it, vI_il, vI_is, vI_bb, vI_bi, vI_tt, vI_tl, vI_ti, vI_ll, vI_lt, vI_ss, vEqB, vNeB, x_ta, x_ta1, x_ta2, x_ta3, x_ta4, x_ta5, x_is, nc_0, nc_1, nc_2, nc_3, nc_4, nc_5, nc_6, nc_7, nc_8, nc_9, nc_10, nc_11, vMax2, vMin2, vIsN0, vIsN1, vNotN0, vNotN1, vIsN2, vNotN2, x_lo, x_lo1, x_lo2, vAll2, vAny2, x_sl, x_sl1, x_sl2, x_pn, x_ps, x_ps1, x_cutL, x_cutC, vEqS, vNeS, x_fz_obj, x_fr_obj, x_make, x_meth, x_meth2, x_meth3, x_isO, x_isO1, x_cat, x_cat1, x_methZ, x_methZ2, x_methZ3, x_callZ, x_callZ1, x_lend1, x_lend2, x_cl_int, x_cl_bl, x_cl_str, x_cl_non, x_cl_tup, x_cl0, x_cl1, x_cl_lst, x_setIx, x_setIx1, x_setIx2, x_callI, x_callI1, x_callI2, x_callI3, x_take0, x_take1, x_take2, x_put0, x_put1, x_cFI, x_cRI1, x_cRI2, x_outR, x_outR1, x_out1, x_out2, x_par, x_par1, x_sort, x_sort1, x_sort2, x_io2, x_io4, vIsB, x_pop, x_lr, x_lr1, x_clr, x_clr1, x_clrE, x_clrE1, x_pop1, x_pop2, x_ins, x_ins1, x_ins2, List.all_cons, List.all_nil, Option.isSome_some, Option.map_some, List.getD_cons_zero, List.getD_cons_succ, List.set_cons_zero, List.set_cons_succ, List.map_cons, List.map_nil, List.replicate_zero, List.replicate_succ, List.length_cons, List.length_nil, List.cons_append, List.nil_append, Option.bind_some, if_true, if_false, Bool.false_eq_true, Nat.reduceSub, Nat.reduceAdd, Nat.reduceLeDiff, Nat.reduceLT, vAdd, vSub, vLt, vLe, vGt, vGe, vNeg, vEq, vNe, vEq2, vNe2, vMod, vDiv, vMul, vPow, Int.reduceToNat, vIx0, vIx1, vLenT, vLenC, vLenL, reduceIte, decide_true, decide_false, Bool.not_true, Bool.not_false, beq_self_eq_true, Bool.and_true, Bool.true_and, Bool.and_self, Bool.and_false, Bool.false_and, pg, pa, pb, par, q1, q2, q3, srt, ixl0, ixl1, set0, vDiv s0 s1]
  have and3 : ∀ {P Q R : Prop} [Decidable P] [Decidable Q] [Decidable R], (decide P && (decide Q && decide R)) = true ↔ P ∧ Q ∧ R := by intro P Q R _ _ _; simp
  have hlow : (if (decide (n % 2 = 0) && (decide (a < 0) && decide (0 < b))) = true then (0 : Int) else mnI A B') = lowP a b n ∧ (if (decide (n % 2 = 0) && (decide (a ≤ 0) && decide (0 ≤ b))) = true then (0 : Int) else mnI A B') = lowP a b n := by
    have e2 : (if (decide (n % 2 = 0) && (decide (a ≤ 0) && decide (0 ≤ b))) = true then (0 : Int) else mnI A B') = lowP a b n := by
      unfold lowP
      rw [hA, hB]
      by_cases q3 : n % 2 = 0 ∧ a ≤ 0 ∧ 0 ≤ b
      · rw [if_pos (and3.mpr q3), if_pos q3]
      · rw [if_neg (fun z => q3 (and3.mp z)), if_neg q3]
    refine ⟨?_, e2⟩
    rw [← e2]
    by_cases q : n % 2 = 0 ∧ a < 0 ∧ 0 < b
    · rw [if_pos (and3.mpr q), if_pos (and3.mpr ⟨q.1, Int.le_of_lt q.2.1, Int.le_of_lt q.2.2⟩)]
    · rw [if_neg (fun z => q (and3.mp z))]
      by_cases q3 : n % 2 = 0 ∧ a ≤ 0 ∧ 0 ≤ b
      · rw [if_pos (and3.mpr q3), hev q3.1 q3.2.1 q3.2.2 (fun z => q ⟨q3.1, z⟩)]
      · rw [if_neg (fun z => q3 (and3.mp z))]
  have e0 : powS (a, b) k.toNat g = (lowP a b n / G, -(-mxI A B' / G)) := by
    unfold powS
    rw [hn]
    show (lowP a b n / g ^ (n - 1), -(-mxI (a ^ n) (b ^ n) / g ^ (n - 1))) = _
    rw [hA, hB, hG]
  rw [e0]
  exact ok1 _ hlow.1
/-- forth by an object's class -/
def fo (n : Nd) : List D → CR := match n with
  | .num _ _ => f_Number_forth | .unk _ => f_Unknown_forth | .pow _ _ => f_Power_forth | .plus _ _ => f_Plus_forth | .minus _ _ => f_Minus_forth | .times _ _ => f_Times_forth
theorem meth_ok (n : Nd) {τ : Bn.Env} {ma : MA} : methA al_forth "forth" n.o ma τ = (ma τ).bind fun ds τ2 => ofC (fo n (n.o :: freezeL ds)) τ2 := by
  cases n <;> simp only [Nd.o, x_meth2, al_forth_Number, nm_Number_forth, al_forth_Unknown, nm_Unknown_forth, al_forth_Plus, nm_Plus_forth, al_forth_Minus, nm_Minus_forth, al_forth_Times, nm_Times_forth, al_forth_Power, nm_Power_forth, x_meth3, fo]
theorem forth_ok {n : Nd} {ss bs : List (Int × Int)} {M : Int} (hB : n.B ss.length M) (hM : M = bs.length) (hs : ∀ i : Int, 0 ≤ i → i < ss.length → (pt ss i).1 ≤ (pt ss i).2 ∧ (pt ss i).1.natAbs < 2 ^ 1000 ∧ (pt ss i).2.natAbs < 2 ^ 1000) {g : Int} (g1 : 1 ≤ g) (g2 : g ≤ 1000000) :
    fo n [n.o, .lst false (ss.map spD), .lst false (bs.map spD), .int g] = .ok (spD (spW ss bs g n)) ∧ f__law_forth [n.d, .lst false (ss.map spD), .lst false (bs.map spD), .int g] = .ok (spD (spW ss bs g n)) := by
  have gb : g.natAbs < 2 ^ 60 := by omega
  have ixs : ∀ {i : Int}, 0 ≤ i → i < ss.length → ∀ m, gIx (.lst m (ss.map spD)) (.int i) = some (.tup [.int (pt ss i).1, .int (pt ss i).2]) := fun h0 h1 m => ix_pt h0 h1 m
  have ixb : ∀ {i : Int}, 0 ≤ i → i < bs.length → ∀ m, gIx (.lst m (bs.map spD)) (.int i) = some (.tup [.int (pt bs i).1, .int (pt bs i).2]) := fun h0 h1 m => ix_pt h0 h1 m
  cases n with
  | num t b =>
    obtain ⟨b1, _, tb, bb⟩ := hB
    refine ⟨number_forth b1 (by omega) (by omega) (by omega), ?_⟩
    have w2 : L2.CMulW t g := mulW 40 40 (by omega) (by omega) (by decide)
    have w3 : L2.CMulW (-t) g := mulW 40 40 (by omega) (by omega) (by decide)
    have d1 : b.natAbs.log2 < 9000 := by have := log2_le (show b.natAbs < 2 ^ 40 by omega); omega
    have b0 : 0 < b := by omega
    clear hs
    generalize ss.map spD = S at *
    generalize bs.map spD = B at *
    simp (disch := decide) only [spW, spD, Nd.d, vIxT2, we_number_number, f__law_forth, m__law_forth, x_seq, x_seq1, x_seq2, x_seq3, x_seq4, x_seq5, x_seq6, x_nil, x_if, x_if1, x_if2, x_if3, x_ret, x_ret1, x_ret2, x_ret3, x_retN, x_asg, x_asg1, x_asg2, x_asg3, x_asg4, x_asg5, x_gN, x_drop, x_drop1, x_drop2, x_bk, x_ct, x_raise, x_tZ, x_tZ1, x_tZ2, x_tE, x_tE1, x_tE2, x_tE3, x_tAnd, x_tAnd1, x_tAnd2, x_tAnd3, x_tOr, x_tOr1, x_tOr2, x_tOr3, x_tNot, x_tNot1, x_tNot2, x_tNot3, x_tTrue, x_z2, x_z21, x_z1, x_z11, x_zC, x_zC1, x_za, x_za1, x_za0, x_zV, x_zK, x_ch, x_ch1, x_ch2, x_eZ, x_eZ1, x_eZ2, x_eV, x_eV1, x_eM, x_eM1, x_b1, x_b2, x_b3, x_s1, x_s2, x_s3, x_oO, x_oO2, x_e2, x_e1, x_eC, x_aN, x_aC, x_tup, x_lst, x_call, x_oC1, x_oC2, x_call0, x_call01, x_eAnd, x_eAnd1, x_eOr, x_eOr1, x_eNot, x_eNot1, x_eIf, x_eIf1, x_fz_int, x_fr_int, x_fz_bl, x_fr_bl, x_fz_str, x_fr_str, x_fz_ty, x_fr_ty, x_fz_tup, x_fr_tup, x_fz_cst, x_fr_cst, x_fz_lst_false, x_fr_lst_false, x_fz_non, x_fr_non, x_fz_lt, x_fr_lt, x_fL0, x_fL1, x_cF, x_cR1, x_cR2, x_cR3, x_iL, x_iL1, x_iT, x_iT1, x_iS, x_iS1, x_iR1, x_iR11, x_iR2, x_iR21, x_iE, x_iE1, x_iV, x_iV1, x_iZ, x_iZ1, x_for, x_fo0, x_fo1, x_fo2, x_fo3, x_fo4, x_fo5, x_fo6, x_fo7, x_gT, x_gC, x_gC0, x_try, x_try1, x_try2, x_try3, x_try4, x_try5, x_nx1, x_nx2, x_try6, x_try7, x_nx3, x_nx4, x_app, x_app1, x_app2, x_lc, x_lcE, x_lc0, x_lc1, x_lcG, x_w0, x_w1, vMinL4, vMaxL4, vAll3, vAny3, vAll4, vAny4, x_wh1, x_wh2, x_wh0, x_abs, vI_ii, vI_ib, vI_it, vI_il, vI_is, vI_bb, vI_bi, vI_tt, vI_tl, vI_ti, vI_ll, vI_lt, vI_ss, vEqB, vNeB, x_ta, x_ta1, x_ta2, x_ta3, x_ta4, x_ta5, x_is, nc_0, nc_1, nc_2, nc_3, nc_4, nc_5, nc_6, nc_7, nc_8, nc_9, nc_10, nc_11, vMax2, vMin2, vIsN0, vIsN1, vNotN0, vNotN1, vIsN2, vNotN2, x_lo, x_lo1, x_lo2, vAll2, vAny2, x_sl, x_sl1, x_sl2, x_pn, x_ps, x_ps1, x_cutL, x_cutC, vEqS, vNeS, x_fz_obj, x_fr_obj, x_make, x_meth, x_meth2, x_meth3, x_isO, x_isO1, x_cat, x_cat1, x_methZ, x_methZ2, x_methZ3, x_callZ, x_callZ1, x_lend1, x_lend2, x_cl_int, x_cl_bl, x_cl_str, x_cl_non, x_cl_tup, x_cl0, x_cl1, x_cl_lst, x_setIx, x_setIx1, x_setIx2, x_callI, x_callI1, x_callI2, x_callI3, x_take0, x_take1, x_take2, x_put0, x_put1, x_cFI, x_cRI1, x_cRI2, x_outR, x_outR1, x_out1, x_out2, x_par, x_par1, x_sort, x_sort1, x_sort2, x_io2, x_io4, vIsB, x_pop, x_lr, x_lr1, x_clr, x_clr1, x_clrE, x_clrE1, x_pop1, x_pop2, x_ins, x_ins1, x_ins2, List.all_cons, List.all_nil, Option.isSome_some, Option.map_some, List.getD_cons_zero, List.getD_cons_succ, List.set_cons_zero, List.set_cons_succ, List.map_cons, List.map_nil, List.replicate_zero, List.replicate_succ, List.length_cons, List.length_nil, List.cons_append, List.nil_append, Option.bind_some, if_true, if_false, Bool.false_eq_true, Nat.reduceSub, Nat.reduceAdd, Nat.reduceLeDiff, Nat.reduceLT, vAdd, vSub, vLt, vLe, vGt, vGe, vNeg, vEq, vNe, vEq2, vNe2, vMod, vDiv, vMul, vPow, Int.reduceToNat, vIx0, vIx1, vLenT, vLenC, vLenL, reduceIte, decide_true, decide_false, Bool.not_true, Bool.not_false, beq_self_eq_true, Bool.and_true, Bool.true_and, Bool.and_self, Bool.and_false, Bool.false_and, vMul w2, vMul w3, vDiv b0 d1]
  | unk j =>
    obtain ⟨j0, j1⟩ := hB
    refine ⟨unknown_forth (ixb j0 (by omega)), ?_⟩
    have e := ixb j0 (by omega) false
    clear hs
    show _ = CR.ok (.tup [.int (pt bs j).1, .int (pt bs j).2])
    generalize ss.map spD = S at *
    generalize bs.map spD = B at *
    simp (disch := decide) only [Nd.d, we_unknown_number, we_unknown_unknown, f__law_forth, m__law_forth, x_seq, x_seq1, x_seq2, x_seq3, x_seq4, x_seq5, x_seq6, x_nil, x_if, x_if1, x_if2, x_if3, x_ret, x_ret1, x_ret2, x_ret3, x_retN, x_asg, x_asg1, x_asg2, x_asg3, x_asg4, x_asg5, x_gN, x_drop, x_drop1, x_drop2, x_bk, x_ct, x_raise, x_tZ, x_tZ1, x_tZ2, x_tE, x_tE1, x_tE2, x_tE3, x_tAnd, x_tAnd1, x_tAnd2, x_tAnd3, x_tOr, x_tOr1, x_tOr2, x_tOr3, x_tNot, x_tNot1, x_tNot2, x_tNot3, x_tTrue, x_z2, x_z21, x_z1, x_z11, x_zC, x_zC1, x_za, x_za1, x_za0, x_zV, x_zK, x_ch, x_ch1, x_ch2, x_eZ, x_eZ1, x_eZ2, x_eV, x_eV1, x_eM, x_eM1, x_b1, x_b2, x_b3, x_s1, x_s2, x_s3, x_oO, x_oO2, x_e2, x_e1, x_eC, x_aN, x_aC, x_tup, x_lst, x_call, x_oC1, x_oC2, x_call0, x_call01, x_eAnd, x_eAnd1, x_eOr, x_eOr1, x_eNot, x_eNot1, x_eIf, x_eIf1, x_fz_int, x_fr_int, x_fz_bl, x_fr_bl, x_fz_str, x_fr_str, x_fz_ty, x_fr_ty, x_fz_tup, x_fr_tup, x_fz_cst, x_fr_cst, x_fz_lst_false, x_fr_lst_false, x_fz_non, x_fr_non, x_fz_lt, x_fr_lt, x_fL0, x_fL1, x_cF, x_cR1, x_cR2, x_cR3, x_iL, x_iL1, x_iT, x_iT1, x_iS, x_iS1, x_iR1, x_iR11, x_iR2, x_iR21, x_iE, x_iE1, x_iV, x_iV1, x_iZ, x_iZ1, x_for, x_fo0, x_fo1, x_fo2, x_fo3, x_fo4, x_fo5, x_fo6, x_fo7, x_gT, x_gC, x_gC0, x_try, x_try1, x_try2, x_try3, x_try4, x_try5, x_nx1, x_nx2, x_try6, x_try7, x_nx3, x_nx4, x_app, x_app1, x_app2, x_lc, x_lcE, x_lc0, x_lc1, x_lcG, x_w0, x_w1, vMinL4, vMaxL4, vAll3, vAny3, vAll4, vAny4, x_wh1, x_wh2, x_wh0, x_abs, vI_ii, vI_ib, vI_it, vI_il, vI_is, vI_bb, vI_bi, vI_tt, vI_tl, vI_ti, vI_ll, vI_lt, vI_ss, vEqB, vNeB, x_ta, x_ta1, x_ta2, x_ta3, x_ta4, x_ta5, x_is, nc_0, nc_1, nc_2, nc_3, nc_4, nc_5, nc_6, nc_7, nc_8, nc_9, nc_10, nc_11, vMax2, vMin2, vIsN0, vIsN1, vNotN0, vNotN1, vIsN2, vNotN2, x_lo, x_lo1, x_lo2, vAll2, vAny2, x_sl, x_sl1, x_sl2, x_pn, x_ps, x_ps1, x_cutL, x_cutC, vEqS, vNeS, x_fz_obj, x_fr_obj, x_make, x_meth, x_meth2, x_meth3, x_isO, x_isO1, x_cat, x_cat1, x_methZ, x_methZ2, x_methZ3, x_callZ, x_callZ1, x_lend1, x_lend2, x_cl_int, x_cl_bl, x_cl_str, x_cl_non, x_cl_tup, x_cl0, x_cl1, x_cl_lst, x_setIx, x_setIx1, x_setIx2, x_callI, x_callI1, x_callI2, x_callI3, x_take0, x_take1, x_take2, x_put0, x_put1, x_cFI, x_cRI1, x_cRI2, x_outR, x_outR1, x_out1, x_out2, x_par, x_par1, x_sort, x_sort1, x_sort2, x_io2, x_io4, vIsB, x_pop, x_lr, x_lr1, x_clr, x_clr1, x_clrE, x_clrE1, x_pop1, x_pop2, x_ins, x_ins1, x_ins2, List.all_cons, List.all_nil, Option.isSome_some, Option.map_some, List.getD_cons_zero, List.getD_cons_succ, List.set_cons_zero, List.set_cons_succ, List.map_cons, List.map_nil, List.replicate_zero, List.replicate_succ, List.length_cons, List.length_nil, List.cons_append, List.nil_append, Option.bind_some, if_true, if_false, Bool.false_eq_true, Nat.reduceSub, Nat.reduceAdd, Nat.reduceLeDiff, Nat.reduceLT, vAdd, vSub, vLt, vLe, vGt, vGe, vNeg, vEq, vNe, vEq2, vNe2, vMod, vDiv, vMul, vPow, Int.reduceToNat, vIx0, vIx1, vLenT, vLenC, vLenL, reduceIte, decide_true, decide_false, Bool.not_true, Bool.not_false, beq_self_eq_true, Bool.and_true, Bool.true_and, Bool.and_self, Bool.and_false, Bool.false_and, e]
  | plus i j =>
    obtain ⟨i0, i1, j0, j1⟩ := hB
    refine ⟨plus_forth (ixs i0 i1) (ixs j0 j1), ?_⟩
    have e1 := ixs i0 i1 false
    have e2 := ixs j0 j1 false
    clear hs
    show _ = CR.ok (.tup [.int ((pt ss i).1 + (pt ss j).1), .int ((pt ss i).2 + (pt ss j).2)])
    generalize ss.map spD = S at *
    generalize bs.map spD = B at *
    simp (disch := decide) only [Nd.d, vIxT2, we_plus_number, we_plus_unknown, we_plus_power, we_plus_plus, f__law_forth, m__law_forth, f__law_plus, m__law_plus, x_seq, x_seq1, x_seq2, x_seq3, x_seq4, x_seq5, x_seq6, x_nil, x_if, x_if1, x_if2, x_if3, x_ret, x_ret1, x_ret2, x_ret3, x_retN, x_asg, x_asg1, x_asg2, x_asg3, x_asg4, x_asg5, x_gN, x_drop, x_drop1, x_drop2, x_bk, x_ct, x_raise, x_tZ, x_tZ1, x_tZ2, x_tE, x_tE1, x_tE2, x_tE3, x_tAnd, x_tAnd1, x_tAnd2, x_tAnd3, x_tOr, x_tOr1, x_tOr2, x_tOr3, x_tNot, x_tNot1, x_tNot2, x_tNot3, x_tTrue, x_z2, x_z21, x_z1, x_z11, x_zC, x_zC1, x_za, x_za1, x_za0, x_zV, x_zK, x_ch, x_ch1, x_ch2, x_eZ, x_eZ1, x_eZ2, x_eV, x_eV1, x_eM, x_eM1, x_b1, x_b2, x_b3, x_s1, x_s2, x_s3, x_oO, x_oO2, x_e2, x_e1, x_eC, x_aN, x_aC, x_tup, x_lst, x_call, x_oC1, x_oC2, x_call0, x_call01, x_eAnd, x_eAnd1, x_eOr, x_eOr1, x_eNot, x_eNot1, x_eIf, x_eIf1, x_fz_int, x_fr_int, x_fz_bl, x_fr_bl, x_fz_str, x_fr_str, x_fz_ty, x_fr_ty, x_fz_tup, x_fr_tup, x_fz_cst, x_fr_cst, x_fz_lst_false, x_fr_lst_false, x_fz_non, x_fr_non, x_fz_lt, x_fr_lt, x_fL0, x_fL1, x_cF, x_cR1, x_cR2, x_cR3, x_iL, x_iL1, x_iT, x_iT1, x_iS, x_iS1, x_iR1, x_iR11, x_iR2, x_iR21, x_iE, x_iE1, x_iV, x_iV1, x_iZ, x_iZ1, x_for, x_fo0, x_fo1, x_fo2, x_fo3, x_fo4, x_fo5, x_fo6, x_fo7, x_gT, x_gC, x_gC0, x_try, x_try1, x_try2, x_try3, x_try4, x_try5, x_nx1, x_nx2, x_try6, x_try7, x_nx3, x_nx4, x_app, x_app1, x_app2, x_lc, x_lcE, x_lc0, x_lc1, x_lcG, x_w0, x_w1, vMinL4, vMaxL4, vAll3, vAny3, vAll4, vAny4, x_wh1, x_wh2, x_wh0, x_abs, vI_ii, vI_ib, vI_it, vI_il, vI_is, vI_bb, vI_bi, vI_tt, vI_tl, vI_ti, vI_ll, vI_lt, vI_ss, vEqB, vNeB, x_ta, x_ta1, x_ta2, x_ta3, x_ta4, x_ta5, x_is, nc_0, nc_1, nc_2, nc_3, nc_4, nc_5, nc_6, nc_7, nc_8, nc_9, nc_10, nc_11, vMax2, vMin2, vIsN0, vIsN1, vNotN0, vNotN1, vIsN2, vNotN2, x_lo, x_lo1, x_lo2, vAll2, vAny2, x_sl, x_sl1, x_sl2, x_pn, x_ps, x_ps1, x_cutL, x_cutC, vEqS, vNeS, x_fz_obj, x_fr_obj, x_make, x_meth, x_meth2, x_meth3, x_isO, x_isO1, x_cat, x_cat1, x_methZ, x_methZ2, x_methZ3, x_callZ, x_callZ1, x_lend1, x_lend2, x_cl_int, x_cl_bl, x_cl_str, x_cl_non, x_cl_tup, x_cl0, x_cl1, x_cl_lst, x_setIx, x_setIx1, x_setIx2, x_callI, x_callI1, x_callI2, x_callI3, x_take0, x_take1, x_take2, x_put0, x_put1, x_cFI, x_cRI1, x_cRI2, x_outR, x_outR1, x_out1, x_out2, x_par, x_par1, x_sort, x_sort1, x_sort2, x_io2, x_io4, vIsB, x_pop, x_lr, x_lr1, x_clr, x_clr1, x_clrE, x_clrE1, x_pop1, x_pop2, x_ins, x_ins1, x_ins2, List.all_cons, List.all_nil, Option.isSome_some, Option.map_some, List.getD_cons_zero, List.getD_cons_succ, List.set_cons_zero, List.set_cons_succ, List.map_cons, List.map_nil, List.replicate_zero, List.replicate_succ, List.length_cons, List.length_nil, List.cons_append, List.nil_append, Option.bind_some, if_true, if_false, Bool.false_eq_true, Nat.reduceSub, Nat.reduceAdd, Nat.reduceLeDiff, Nat.reduceLT, vAdd, vSub, vLt, vLe, vGt, vGe, vNeg, vEq, vNe, vEq2, vNe2, vMod, vDiv, vMul, vPow, Int.reduceToNat, vIx0, vIx1, vLenT, vLenC, vLenL, reduceIte, decide_true, decide_false, Bool.not_true, Bool.not_false, beq_self_eq_true, Bool.and_true, Bool.true_and, Bool.and_self, Bool.and_false, Bool.false_and, e1, e2]
  | minus i j =>
    obtain ⟨i0, i1, j0, j1⟩ := hB
    refine ⟨minus_forth (ixs i0 i1) (ixs j0 j1), ?_⟩
    have e1 := ixs i0 i1 false
    have e2 := ixs j0 j1 false
    clear hs
    show _ = CR.ok (.tup [.int ((pt ss i).1 - (pt ss j).2), .int ((pt ss i).2 - (pt ss j).1)])
    generalize ss.map spD = S at *
    generalize bs.map spD = B at *
    simp (disch := decide) only [Nd.d, vIxT2, we_minus_number, we_minus_unknown, we_minus_power, we_minus_plus, we_minus_minus, f__law_forth, m__law_forth, f__law_less, m__law_less, x_seq, x_seq1, x_seq2, x_seq3, x_seq4, x_seq5, x_seq6, x_nil, x_if, x_if1, x_if2, x_if3, x_ret, x_ret1, x_ret2, x_ret3, x_retN, x_asg, x_asg1, x_asg2, x_asg3, x_asg4, x_asg5, x_gN, x_drop, x_drop1, x_drop2, x_bk, x_ct, x_raise, x_tZ, x_tZ1, x_tZ2, x_tE, x_tE1, x_tE2, x_tE3, x_tAnd, x_tAnd1, x_tAnd2, x_tAnd3, x_tOr, x_tOr1, x_tOr2, x_tOr3, x_tNot, x_tNot1, x_tNot2, x_tNot3, x_tTrue, x_z2, x_z21, x_z1, x_z11, x_zC, x_zC1, x_za, x_za1, x_za0, x_zV, x_zK, x_ch, x_ch1, x_ch2, x_eZ, x_eZ1, x_eZ2, x_eV, x_eV1, x_eM, x_eM1, x_b1, x_b2, x_b3, x_s1, x_s2, x_s3, x_oO, x_oO2, x_e2, x_e1, x_eC, x_aN, x_aC, x_tup, x_lst, x_call, x_oC1, x_oC2, x_call0, x_call01, x_eAnd, x_eAnd1, x_eOr, x_eOr1, x_eNot, x_eNot1, x_eIf, x_eIf1, x_fz_int, x_fr_int, x_fz_bl, x_fr_bl, x_fz_str, x_fr_str, x_fz_ty, x_fr_ty, x_fz_tup, x_fr_tup, x_fz_cst, x_fr_cst, x_fz_lst_false, x_fr_lst_false, x_fz_non, x_fr_non, x_fz_lt, x_fr_lt, x_fL0, x_fL1, x_cF, x_cR1, x_cR2, x_cR3, x_iL, x_iL1, x_iT, x_iT1, x_iS, x_iS1, x_iR1, x_iR11, x_iR2, x_iR21, x_iE, x_iE1, x_iV, x_iV1, x_iZ, x_iZ1, x_for, x_fo0, x_fo1, x_fo2, x_fo3, x_fo4, x_fo5, x_fo6, x_fo7, x_gT, x_gC, x_gC0, x_try, x_try1, x_try2, x_try3, x_try4, x_try5, x_nx1, x_nx2, x_try6, x_try7, x_nx3, x_nx4, x_app, x_app1, x_app2, x_lc, x_lcE, x_lc0, x_lc1, x_lcG, x_w0, x_w1, vMinL4, vMaxL4, vAll3, vAny3, vAll4, vAny4, x_wh1, x_wh2, x_wh0, x_abs, vI_ii, vI_ib, vI_it, vI_il, vI_is, vI_bb, vI_bi, vI_tt, vI_tl, vI_ti, vI_ll, vI_lt, vI_ss, vEqB, vNeB, x_ta, x_ta1, x_ta2, x_ta3, x_ta4, x_ta5, x_is, nc_0, nc_1, nc_2, nc_3, nc_4, nc_5, nc_6, nc_7, nc_8, nc_9, nc_10, nc_11, vMax2, vMin2, vIsN0, vIsN1, vNotN0, vNotN1, vIsN2, vNotN2, x_lo, x_lo1, x_lo2, vAll2, vAny2, x_sl, x_sl1, x_sl2, x_pn, x_ps, x_ps1, x_cutL, x_cutC, vEqS, vNeS, x_fz_obj, x_fr_obj, x_make, x_meth, x_meth2, x_meth3, x_isO, x_isO1, x_cat, x_cat1, x_methZ, x_methZ2, x_methZ3, x_callZ, x_callZ1, x_lend1, x_lend2, x_cl_int, x_cl_bl, x_cl_str, x_cl_non, x_cl_tup, x_cl0, x_cl1, x_cl_lst, x_setIx, x_setIx1, x_setIx2, x_callI, x_callI1, x_callI2, x_callI3, x_take0, x_take1, x_take2, x_put0, x_put1, x_cFI, x_cRI1, x_cRI2, x_outR, x_outR1, x_out1, x_out2, x_par, x_par1, x_sort, x_sort1, x_sort2, x_io2, x_io4, vIsB, x_pop, x_lr, x_lr1, x_clr, x_clr1, x_clrE, x_clrE1, x_pop1, x_pop2, x_ins, x_ins1, x_ins2, List.all_cons, List.all_nil, Option.isSome_some, Option.map_some, List.getD_cons_zero, List.getD_cons_succ, List.set_cons_zero, List.set_cons_succ, List.map_cons, List.map_nil, List.replicate_zero, List.replicate_succ, List.length_cons, List.length_nil, List.cons_append, List.nil_append, Option.bind_some, if_true, if_false, Bool.false_eq_true, Nat.reduceSub, Nat.reduceAdd, Nat.reduceLeDiff, Nat.reduceLT, vAdd, vSub, vLt, vLe, vGt, vGe, vNeg, vEq, vNe, vEq2, vNe2, vMod, vDiv, vMul, vPow, Int.reduceToNat, vIx0, vIx1, vLenT, vLenC, vLenL, reduceIte, decide_true, decide_false, Bool.not_true, Bool.not_false, beq_self_eq_true, Bool.and_true, Bool.true_and, Bool.and_self, Bool.and_false, Bool.false_and, e1, e2]
  | times i j =>
    obtain ⟨i0, i1, j0, j1⟩ := hB
    obtain ⟨_, s1, s2⟩ := hs i i0 i1
    obtain ⟨_, s3, s4⟩ := hs j j0 j1
    refine ⟨times_forth (ixs i0 i1) (ixs j0 j1) g1 gb s1 s2 s3 s4, ?_⟩
    have e1 := ixs i0 i1 false
    have e2 := ixs j0 j1 false
    have ep := product_ok g1 gb s1 s2 s3 s4
    clear hs s1 s2 s3 s4
    show _ = CR.ok (spD (mulS (pt ss i) (pt ss j) g))
    generalize spD (mulS (pt ss i) (pt ss j) g) = R0 at *
    generalize ss.map spD = S at *
    generalize bs.map spD = B at *
    have ep : f__law_product [.tup [.int (pt ss i).1, .int (pt ss i).2], .tup [.int (pt ss j).1, .int (pt ss j).2], .int g] = .ok R0 := ep
    simp (disch := decide) only [Nd.d, vIxT2, we_times_number, we_times_unknown, we_times_power, we_times_plus, we_times_minus, f__law_forth, m__law_forth, x_seq, x_seq1, x_seq2, x_seq3, x_seq4, x_seq5, x_seq6, x_nil, x_if, x_if1, x_if2, x_if3, x_ret, x_ret1, x_ret2, x_ret3, x_retN, x_asg, x_asg1, x_asg2, x_asg3, x_asg4, x_asg5, x_gN, x_drop, x_drop1, x_drop2, x_bk, x_ct, x_raise, x_tZ, x_tZ1, x_tZ2, x_tE, x_tE1, x_tE2, x_tE3, x_tAnd, x_tAnd1, x_tAnd2, x_tAnd3, x_tOr, x_tOr1, x_tOr2, x_tOr3, x_tNot, x_tNot1, x_tNot2, x_tNot3, x_tTrue, x_z2, x_z21, x_z1, x_z11, x_zC, x_zC1, x_za, x_za1, x_za0, x_zV, x_zK, x_ch, x_ch1, x_ch2, x_eZ, x_eZ1, x_eZ2, x_eV, x_eV1, x_eM, x_eM1, x_b1, x_b2, x_b3, x_s1, x_s2, x_s3, x_oO, x_oO2, x_e2, x_e1, x_eC, x_aN, x_aC, x_tup, x_lst, x_call, x_oC1, x_oC2, x_call0, x_call01, x_eAnd, x_eAnd1, x_eOr, x_eOr1, x_eNot, x_eNot1, x_eIf, x_eIf1, x_fz_int, x_fr_int, x_fz_bl, x_fr_bl, x_fz_str, x_fr_str, x_fz_ty, x_fr_ty, x_fz_tup, x_fr_tup, x_fz_cst, x_fr_cst, x_fz_lst_false, x_fr_lst_false, x_fz_non, x_fr_non, x_fz_lt, x_fr_lt, x_fL0, x_fL1, x_cF, x_cR1, x_cR2, x_cR3, x_iL, x_iL1, x_iT, x_iT1, x_iS, x_iS1, x_iR1, x_iR11, x_iR2, x_iR21, x_iE, x_iE1, x_iV, x_iV1, x_iZ, x_iZ1, x_for, x_fo0, x_fo1, x_fo2, x_fo3, x_fo4, x_fo5, x_fo6, x_fo7, x_gT, x_gC, x_gC0, x_try, x_try1, x_try2, x_try3, x_try4, x_try5, x_nx1, x_nx2, x_try6, x_try7, x_nx3, x_nx4, x_app, x_app1, x_app2, x_lc, x_lcE, x_lc0, x_lc1, x_lcG, x_w0, x_w1, vMinL4, vMaxL4, vAll3, vAny3, vAll4, vAny4, x_wh1, x_wh2, x_wh0, x_abs, vI_ii, vI_ib, vI_it, vI_il, vI_is, vI_bb, vI_bi, vI_tt, vI_tl, vI_ti, vI_ll, vI_lt, vI_ss, vEqB, vNeB, x_ta, x_ta1, x_ta2, x_ta3, x_ta4, x_ta5, x_is, nc_0, nc_1, nc_2, nc_3, nc_4, nc_5, nc_6, nc_7, nc_8, nc_9, nc_10, nc_11, vMax2, vMin2, vIsN0, vIsN1, vNotN0, vNotN1, vIsN2, vNotN2, x_lo, x_lo1, x_lo2, vAll2, vAny2, x_sl, x_sl1, x_sl2, x_pn, x_ps, x_ps1, x_cutL, x_cutC, vEqS, vNeS, x_fz_obj, x_fr_obj, x_make, x_meth, x_meth2, x_meth3, x_isO, x_isO1, x_cat, x_cat1, x_methZ, x_methZ2, x_methZ3, x_callZ, x_callZ1, x_lend1, x_lend2, x_cl_int, x_cl_bl, x_cl_str, x_cl_non, x_cl_tup, x_cl0, x_cl1, x_cl_lst, x_setIx, x_setIx1, x_setIx2, x_callI, x_callI1, x_callI2, x_callI3, x_take0, x_take1, x_take2, x_put0, x_put1, x_cFI, x_cRI1, x_cRI2, x_outR, x_outR1, x_out1, x_out2, x_par, x_par1, x_sort, x_sort1, x_sort2, x_io2, x_io4, vIsB, x_pop, x_lr, x_lr1, x_clr, x_clr1, x_clrE, x_clrE1, x_pop1, x_pop2, x_ins, x_ins1, x_ins2, List.all_cons, List.all_nil, Option.isSome_some, Option.map_some, List.getD_cons_zero, List.getD_cons_succ, List.set_cons_zero, List.set_cons_succ, List.map_cons, List.map_nil, List.replicate_zero, List.replicate_succ, List.length_cons, List.length_nil, List.cons_append, List.nil_append, Option.bind_some, if_true, if_false, Bool.false_eq_true, Nat.reduceSub, Nat.reduceAdd, Nat.reduceLeDiff, Nat.reduceLT, vAdd, vSub, vLt, vLe, vGt, vGe, vNeg, vEq, vNe, vEq2, vNe2, vMod, vDiv, vMul, vPow, Int.reduceToNat, vIx0, vIx1, vLenT, vLenC, vLenL, reduceIte, decide_true, decide_false, Bool.not_true, Bool.not_false, beq_self_eq_true, Bool.and_true, Bool.true_and, Bool.and_self, Bool.and_false, Bool.false_and, e1, e2, ep]
  | pow i k =>
    obtain ⟨i0, i1, k2, k6⟩ := hB
    obtain ⟨l, s1, s2⟩ := hs i i0 i1
    refine ⟨power_forth (ixs i0 i1) l k2 k6 g1 gb s1 s2, ?_⟩
    have e1 := ixs i0 i1 false
    have ep := raised_ok l k2 k6 g1 gb s1 s2
    clear hs s1 s2
    show _ = CR.ok (spD (powS (pt ss i) k.toNat g))
    have ep : f__law_raised [.tup [.int (pt ss i).1, .int (pt ss i).2], .int k, .int g] = .ok (spD (powS (pt ss i) k.toNat g)) := ep
    generalize spD (powS (pt ss i) k.toNat g) = R0 at *
    generalize ss.map spD = S at *
    generalize bs.map spD = B at *
    simp (disch := decide) only [Nd.d, vIxT2, we_power_number, we_power_unknown, we_power_power, f__law_forth, m__law_forth, x_seq, x_seq1, x_seq2, x_seq3, x_seq4, x_seq5, x_seq6, x_nil, x_if, x_if1, x_if2, x_if3, x_ret, x_ret1, x_ret2, x_ret3, x_retN, x_asg, x_asg1, x_asg2, x_asg3, x_asg4, x_asg5, x_gN, x_drop, x_drop1, x_drop2, x_bk, x_ct, x_raise, x_tZ, x_tZ1, x_tZ2, x_tE, x_tE1, x_tE2, x_tE3, x_tAnd, x_tAnd1, x_tAnd2, x_tAnd3, x_tOr, x_tOr1, x_tOr2, x_tOr3, x_tNot, x_tNot1, x_tNot2, x_tNot3, x_tTrue, x_z2, x_z21, x_z1, x_z11, x_zC, x_zC1, x_za, x_za1, x_za0, x_zV, x_zK, x_ch, x_ch1, x_ch2, x_eZ, x_eZ1, x_eZ2, x_eV, x_eV1, x_eM, x_eM1, x_b1, x_b2, x_b3, x_s1, x_s2, x_s3, x_oO, x_oO2, x_e2, x_e1, x_eC, x_aN, x_aC, x_tup, x_lst, x_call, x_oC1, x_oC2, x_call0, x_call01, x_eAnd, x_eAnd1, x_eOr, x_eOr1, x_eNot, x_eNot1, x_eIf, x_eIf1, x_fz_int, x_fr_int, x_fz_bl, x_fr_bl, x_fz_str, x_fr_str, x_fz_ty, x_fr_ty, x_fz_tup, x_fr_tup, x_fz_cst, x_fr_cst, x_fz_lst_false, x_fr_lst_false, x_fz_non, x_fr_non, x_fz_lt, x_fr_lt, x_fL0, x_fL1, x_cF, x_cR1, x_cR2, x_cR3, x_iL, x_iL1, x_iT, x_iT1, x_iS, x_iS1, x_iR1, x_iR11, x_iR2, x_iR21, x_iE, x_iE1, x_iV, x_iV1, x_iZ, x_iZ1, x_for, x_fo0, x_fo1, x_fo2, x_fo3, x_fo4, x_fo5, x_fo6, x_fo7, x_gT, x_gC, x_gC0, x_try, x_try1, x_try2, x_try3, x_try4, x_try5, x_nx1, x_nx2, x_try6, x_try7, x_nx3, x_nx4, x_app, x_app1, x_app2, x_lc, x_lcE, x_lc0, x_lc1, x_lcG, x_w0, x_w1, vMinL4, vMaxL4, vAll3, vAny3, vAll4, vAny4, x_wh1, x_wh2, x_wh0, x_abs, vI_ii, vI_ib, vI_it, vI_il, vI_is, vI_bb, vI_bi, vI_tt, vI_tl, vI_ti, vI_ll, vI_lt, vI_ss, vEqB, vNeB, x_ta, x_ta1, x_ta2, x_ta3, x_ta4, x_ta5, x_is, nc_0, nc_1, nc_2, nc_3, nc_4, nc_5, nc_6, nc_7, nc_8, nc_9, nc_10, nc_11, vMax2, vMin2, vIsN0, vIsN1, vNotN0, vNotN1, vIsN2, vNotN2, x_lo, x_lo1, x_lo2, vAll2, vAny2, x_sl, x_sl1, x_sl2, x_pn, x_ps, x_ps1, x_cutL, x_cutC, vEqS, vNeS, x_fz_obj, x_fr_obj, x_make, x_meth, x_meth2, x_meth3, x_isO, x_isO1, x_cat, x_cat1, x_methZ, x_methZ2, x_methZ3, x_callZ, x_callZ1, x_lend1, x_lend2, x_cl_int, x_cl_bl, x_cl_str, x_cl_non, x_cl_tup, x_cl0, x_cl1, x_cl_lst, x_setIx, x_setIx1, x_setIx2, x_callI, x_callI1, x_callI2, x_callI3, x_take0, x_take1, x_take2, x_put0, x_put1, x_cFI, x_cRI1, x_cRI2, x_outR, x_outR1, x_out1, x_out2, x_par, x_par1, x_sort, x_sort1, x_sort2, x_io2, x_io4, vIsB, x_pop, x_lr, x_lr1, x_clr, x_clr1, x_clrE, x_clrE1, x_pop1, x_pop2, x_ins, x_ins1, x_ins2, List.all_cons, List.all_nil, Option.isSome_some, Option.map_some, List.getD_cons_zero, List.getD_cons_succ, List.set_cons_zero, List.set_cons_succ, List.map_cons, List.map_nil, List.replicate_zero, List.replicate_succ, List.length_cons, List.length_nil, List.cons_append, List.nil_append, Option.bind_some, if_true, if_false, Bool.false_eq_true, Nat.reduceSub, Nat.reduceAdd, Nat.reduceLeDiff, Nat.reduceLT, vAdd, vSub, vLt, vLe, vGt, vGe, vNeg, vEq, vNe, vEq2, vNe2, vMod, vDiv, vMul, vPow, Int.reduceToNat, vIx0, vIx1, vLenT, vLenC, vLenL, reduceIte, decide_true, decide_false, Bool.not_true, Bool.not_false, beq_self_eq_true, Bool.and_true, Bool.true_and, Bool.and_self, Bool.and_false, Bool.false_and, e1, ep]
theorem sps_Ok (ss : List (Int × Int)) (b : Bool) : Bn.Ok 2 (.lst b (ss.map spD)) := ok_lst fun d hd => by
  obtain ⟨p, _, rfl⟩ := List.mem_map.mp hd
  exact ok_tup fun x hx => by
    simp only [List.mem_cons, List.not_mem_nil, or_false] at hx
    rcases hx with rfl | rfl
    · exact ok_int _
    · exact ok_int _
theorem pt_app {L : List (Int × Int)} {v : Int × Int} {i : Int} (i0 : 0 ≤ i) (i1 : i < L.length) : pt (L ++ [v]) i = pt L i := by
  unfold pt
  rw [List.getD_eq_getElem?_getD, List.getD_eq_getElem?_getD, List.getElem?_append_left (by omega)]
theorem pt_get {L : List (Int × Int)} {i : Int} (i0 : 0 ≤ i) (i1 : i < L.length) : L[i.toNat]? = some (pt L i) := by
  have hk : i.toNat < L.length := by omega
  unfold pt
  rw [List.getD_eq_getElem?_getD, List.getElem?_eq_getElem hk]; rfl
theorem spW_app {L bs : List (Int × Int)} {v : Int × Int} {g M : Int} {n : Nd} {s : Nat} (hB : n.B s M) (hs : s ≤ L.length) : spW (L ++ [v]) bs g n = spW L bs g n := by
  cases n with
  | num t b => rfl
  | unk j => rfl
  | plus i j => obtain ⟨a, b, c, d⟩ := hB; show addS _ _ = addS _ _; rw [pt_app a (by omega), pt_app c (by omega)]
  | minus i j => obtain ⟨a, b, c, d⟩ := hB; show subS _ _ = subS _ _; rw [pt_app a (by omega), pt_app c (by omega)]
  | times i j => obtain ⟨a, b, c, d⟩ := hB; show mulS _ _ _ = mulS _ _ _; rw [pt_app a (by omega), pt_app c (by omega)]
  | pow i k => obtain ⟨a, b, c, d⟩ := hB; show powS _ _ _ = powS _ _ _; rw [pt_app a (by omega)]
/-- all spans, node by node -/
def runW (bs : List (Int × Int)) (g : Int) : List Nd → List (Int × Int) → List (Int × Int)
  | [], ss => ss
  | n :: r, ss => runW bs g r (ss ++ [spW ss bs g n])
theorem runW_len (bs : List (Int × Int)) (g : Int) : ∀ (r : List Nd) (ss : List (Int × Int)), (runW bs g r ss).length = ss.length + r.length
  | [], ss => rfl
  | n :: r, ss => by
    show (runW bs g r _).length = _
    rw [runW_len bs g r, List.length_append, List.length_cons, List.length_nil, List.length_cons]; omega
theorem runW_pre (bs : List (Int × Int)) (g : Int) : ∀ (r : List Nd) (ss : List (Int × Int)), (runW bs g r ss).take ss.length = ss
  | [], ss => List.take_length
  | n :: r, ss => by
    have h := runW_pre bs g r (ss ++ [spW ss bs g n])
    show (runW bs g r (ss ++ [spW ss bs g n])).take ss.length = ss
    have h2 := congrArg (List.take ss.length) h
    rw [List.take_take, List.length_append, Nat.min_eq_left (by omega), List.take_left'] at h2
    · exact h2
    · rfl
theorem runW_app (bs : List (Int × Int)) (g : Int) : ∀ (a b : List Nd) (ss : List (Int × Int)), runW bs g (a ++ b) ss = runW bs g b (runW bs g a ss)
  | [], b, ss => rfl
  | n :: a, b, ss => runW_app bs g a b _
theorem runW_take (bs : List (Int × Int)) (g : Int) (ns : List Nd) (k : Nat) (hk : k ≤ ns.length) : runW bs g (ns.take k) [] = (runW bs g ns []).take k := by
  have h := runW_pre bs g (ns.drop k) (runW bs g (ns.take k) [])
  rw [← runW_app, List.take_append_drop, runW_len, List.length_take, List.length_nil, Nat.zero_add, Nat.min_eq_left hk] at h
  exact h.symm
theorem gd_app {ws : List Int} {ss : List (Int × Int)} (h : Gd ws ss) {p : Int × Int} (hp : p.1 ≤ p.2 ∧ Sz (50 * (ws.getD ss.length 0).toNat) p) : Gd ws (ss ++ [p]) := ⟨fun k q hq => by
  by_cases z : k < ss.length
  · rw [List.getElem?_append_left z] at hq; exact h.g k q hq
  · have e : k = ss.length := by
      have := (List.getElem?_eq_some_iff.mp hq).1
      simp at this; omega
    subst e
    have : q = p := by simpa using hq.symm
    subst this; exact hp⟩
theorem gd_nil (ws : List Int) : Gd ws [] := ⟨fun k p h => by simp at h⟩
theorem gd_step {M : Int} {ns : List Nd} {ws : List Int} (hN : Net M ns ws) {ss bs : List (Int × Int)} (hM : M = bs.length) (hb : ∀ p ∈ bs, SpB p) (hs : Gd ws ss) {n : Nd} (hn : ns[ss.length]? = some n) {g : Int} (g1 : 1 ≤ g) (g2 : g ≤ 1000000) : Gd ws (ss ++ [spW ss bs g n]) := by
  obtain ⟨_, hw, _, _⟩ := hN.nd _ _ hn
  refine gd_app hs ?_
  rw [List.getD_eq_getElem?_getD, hw]
  exact spW_good hN hM hb hs hn g1 g2
theorem runW_good {M : Int} {ns : List Nd} {ws : List Int} (hN : Net M ns ws) {bs : List (Int × Int)} (hM : M = bs.length) (hb : ∀ p ∈ bs, SpB p) {g : Int} (g1 : 1 ≤ g) (g2 : g ≤ 1000000) : ∀ (r : List Nd) (ss : List (Int × Int)), Gd ws ss → (∀ (k : Nat) (n : Nd), r[k]? = some n → ns[ss.length + k]? = some n) → Gd ws (runW bs g r ss)
  | [], ss, hs, _ => hs
  | n :: r, ss, hs, hr => runW_good hN hM hb g1 g2 r _ (gd_step hN hM hb hs (hr 0 n rfl) g1 g2) fun k m hm => by
    rw [List.length_append, List.length_cons, List.length_nil, show ss.length + (0 + 1) + k = ss.length + (k + 1) by omega]
    exact hr (k + 1) m (by simpa using hm)
theorem cl_sp (p : Int × Int) : clean (spD p) = true := rfl
theorem fz_sp (ss : List (Int × Int)) : freezeL (ss.map spD) = ss.map spD := fz_map (fun _ => rfl) ss
/-- both loops over the nodes -/
theorem loopW {M : Int} {ns : List Nd} {ws : List Int} (hN : Net M ns ws) {bs : List (Int × Int)} (hM : M = bs.length) (hb : ∀ p ∈ bs, SpB p) {g : Int} (g1 : 1 ≤ g) (g2 : g ≤ 1000000) {NS : List D} {b : MS}
    (hbd : ∀ (ss : List (Int × Int)) (n : Nd), ss.length ≤ 1000 → Gd ws ss → ns[ss.length]? = some n → b [some (.lst false NS), some (.lst false (bs.map spD)), some (.int g), some (.lst true (ss.map spD)), some n.d] = .nx [some (.lst false NS), some (.lst false (bs.map spD)), some (.int g), some (.lst true ((ss ++ [spW ss bs g n]).map spD)), some n.d]) :
    ∀ (r : List Nd) (ss : List (Int × Int)) (x : Option D), ss.length + r.length ≤ 1000 → Gd ws ss → (∀ (k : Nat) (n : Nd), r[k]? = some n → ns[ss.length + k]? = some n) → ∃ x', forL (gN 4) b (r.map Nd.d) [some (.lst false NS), some (.lst false (bs.map spD)), some (.int g), some (.lst true (ss.map spD)), x] = .nx [some (.lst false NS), some (.lst false (bs.map spD)), some (.int g), some (.lst true ((runW bs g r ss).map spD)), x']
  | [], ss, x, _, _, _ => ⟨x, rfl⟩
  | n :: r, ss, x, hl, hs, hr => by
    rw [List.length_cons] at hl
    have hn := hr 0 n rfl
    obtain ⟨x', e⟩ := loopW hN hM hb g1 g2 hbd r (ss ++ [spW ss bs g n]) (some n.d) (by rw [List.length_append, List.length_cons, List.length_nil]; omega) (gd_step hN hM hb hs hn g1 g2) fun k m hm => by
      rw [List.length_append, List.length_cons, List.length_nil, show ss.length + (0 + 1) + k = ss.length + (k + 1) by omega]
      exact hr (k + 1) m (by simpa using hm)
    refine ⟨x', ?_⟩
    rw [List.map_cons, x_fo1]
    show forB (b [some (.lst false NS), some (.lst false (bs.map spD)), some (.int g), some (.lst true (ss.map spD)), some n.d]) _ = _
    rw [hbd ss n (by omega) hs hn, x_fo3]
    exact e
/-- spans whose sizes are told by the weights -/
structure Gv (ws : List Int) (ss : List (Int × Int)) : Prop where
  g : ∀ (k : Nat) (p : Int × Int), ss[k]? = some p → p.1 ≤ p.2 ∧ Sz (54 * (ws.getD k 0).toNat - 1) p
theorem Gv.at {ws : List Int} {ss : List (Int × Int)} (h : Gv ws ss) {i : Int} (i0 : 0 ≤ i) (i1 : i < ss.length) : (pt ss i).1 ≤ (pt ss i).2 ∧ Sz (54 * (ws.getD i.toNat 0).toNat - 1) (pt ss i) := h.g _ _ (pt_get i0 i1)
theorem Gv.big {M : Int} {ns : List Nd} {ws : List Int} (hN : Net M ns ws) {ss : List (Int × Int)} (hl : ss.length ≤ ns.length) (h : Gv ws ss) (i : Int) (i0 : 0 ≤ i) (i1 : i < ss.length) : (pt ss i).1 ≤ (pt ss i).2 ∧ (pt ss i).1.natAbs < 2 ^ 1000 ∧ (pt ss i).2.natAbs < 2 ^ 1000 := by
  have w := hN.at i0 (show i < (ns.length : Int) by omega)
  obtain ⟨l, s⟩ := h.at i0 i1
  have s := s.mono (B := 1000) (by omega)
  exact ⟨l, s.1, s.2⟩
theorem spW_v {M : Int} {ns : List Nd} {ws : List Int} (hN : Net M ns ws) {ss bs : List (Int × Int)} (hM : M = bs.length) (hb : ∀ p ∈ bs, SpB p) (hs : Gv ws ss) {n : Nd} (hn : ns[ss.length]? = some n) {g : Int} (g1 : 1 ≤ g) (g2 : g ≤ 1000000) : (spW ss bs g n).1 ≤ (spW ss bs g n).2 ∧ Sz (54 * (wt ws n).toNat - 2) (spW ss bs g n) := by
  obtain ⟨hB, _, _, _⟩ := hN.nd _ _ hn
  have hl : ss.length < ns.length := (List.getElem?_eq_some_iff.mp hn).1
  have wa : ∀ {i : Int}, 0 ≤ i → i < ss.length → 1 ≤ ws.getD i.toNat 0 ∧ ws.getD i.toNat 0 ≤ 16 := fun h0 h1 => hN.at h0 (by omega)
  cases n with
  | num t b =>
    obtain ⟨b1, _, tb, bb⟩ := hB
    refine ⟨?_, ?_⟩
    · show t * g / b ≤ -(-t * g / b)
      rw [Int.neg_mul]
      exact fl_ce (Int.le_refl _) (by omega)
    · have tg : (t * g).natAbs ≤ 999999999000000 := by
        rw [Int.natAbs_mul]
        exact Nat.le_trans (Nat.mul_le_mul tb (show g.natAbs ≤ 1000000 by omega)) (by decide)
      have e1 : (-t * g).natAbs = (t * g).natAbs := by rw [Int.neg_mul, Int.natAbs_neg]
      refine ⟨Nat.lt_of_le_of_lt (div_size b1) (Nat.lt_of_le_of_lt tg (show 999999999000000 < 2 ^ (54 * 1 - 2) by decide)), ?_⟩
      show (-(-t * g / b)).natAbs < _
      rw [Int.natAbs_neg]
      exact Nat.lt_of_le_of_lt (div_size b1) (Nat.lt_of_le_of_lt (e1 ▸ tg) (show 999999999000000 < 2 ^ (54 * 1 - 2) by decide))
  | unk j =>
    obtain ⟨j0, j1⟩ := hB
    have h := box_at hb j0 (by omega)
    have h1 := h.le; have h2 := h.lo; have h3 := h.hi
    refine ⟨h1, ?_⟩
    show Sz (54 * 1 - 2) (pt bs j)
    constructor <;> omega
  | plus i j =>
    obtain ⟨i0, i1, j0, j1⟩ := hB
    obtain ⟨l1, s1⟩ := hs.at i0 i1
    obtain ⟨l2, s2⟩ := hs.at j0 j1
    have w1 := wa i0 i1
    have w2 := wa j0 j1
    refine ⟨by show _ + _ ≤ _ + _; omega, (Sz.add (by omega) (by omega) s1 s2).mono ?_⟩
    show _ ≤ 54 * (_ + _ : Int).toNat - 2
    omega
  | minus i j =>
    obtain ⟨i0, i1, j0, j1⟩ := hB
    obtain ⟨l1, s1⟩ := hs.at i0 i1
    obtain ⟨l2, s2⟩ := hs.at j0 j1
    have w1 := wa i0 i1
    have w2 := wa j0 j1
    refine ⟨by show _ - _ ≤ _ - _; omega, (Sz.sub (by omega) (by omega) s1 s2).mono ?_⟩
    show _ ≤ 54 * (_ + _ : Int).toNat - 2
    omega
  | times i j =>
    obtain ⟨i0, i1, j0, j1⟩ := hB
    obtain ⟨l1, s1⟩ := hs.at i0 i1
    obtain ⟨l2, s2⟩ := hs.at j0 j1
    have w1 := wa i0 i1
    have w2 := wa j0 j1
    refine ⟨fl_ce (Int.le_trans (minI_le _ _).1 (maxI_le _ _).1) (by omega), (Sz.mul s1 s2 g1).mono ?_⟩
    show _ ≤ 54 * (_ + _ : Int).toNat - 2
    omega
  | pow i k =>
    obtain ⟨i0, i1, k2, k6⟩ := hB
    obtain ⟨l1, s1⟩ := hs.at i0 i1
    have w1 := wa i0 i1
    have nz : k.toNat ≠ 0 := by omega
    refine ⟨fl_ce (lowP_le l1 nz) (Int.pow_pos (by omega)), (Sz.pow nz s1 g1).mono ?_⟩
    show _ ≤ 54 * (k * _ : Int).toNat - 2
    obtain ⟨w, hw⟩ : ∃ w : Nat, ws.getD i.toNat 0 = w := ⟨(ws.getD i.toNat 0).toNat, by omega⟩
    obtain ⟨q, rfl⟩ : ∃ q : Nat, k = q := ⟨k.toNat, by omega⟩
    rw [hw, ← Int.natCast_mul, Int.toNat_natCast, Int.toNat_natCast, Int.toNat_natCast]
    have h1 : (54 * w - 1) * q + 1 * q = (54 * w - 1 + 1) * q := (Nat.add_mul _ _ _).symm
    rw [Nat.one_mul, show 54 * w - 1 + 1 = 54 * w by omega, Nat.mul_assoc, Nat.mul_comm w q] at h1
    omega
theorem lc_rng {own : List Nat} {g : D → Bn.Env → Option Bn.Env} {m : ME} {τ : Bn.Env} {i n : Nat} {N : Int} (F : Nat → D) (hN : τ.getD i none = some (.int N)) (hn : N.toNat = n) (N0 : 0 ≤ N) (n1 : N ≤ 1000) (hw : wipeE τ own = τ)
    (h : ∀ k, k < n → ∃ τ1 τ2, g (.int (0 + ((k : Nat) : Int))) τ = some τ1 ∧ m τ1 = .ok (F k) τ2 ∧ wipeE τ2 own = τ) : eLc own (iR1 (aCons (eVar i) aNil)) g tTrue m τ = .ok (.lst true ((List.range n).map F)) τ := by
  have h0 : aCons (eVar i) aNil τ = .ok [.int N] τ := by
    rw [x_aC]; unfold eVar; rw [hN]; rfl
  obtain ⟨es, ha, e⟩ := lc_all (g := g) (own := own) (m := m) (fun d e => ∃ k : Nat, d = .int (0 + (k : Nat)) ∧ e = F k) τ (rangeD 0 n) [] (by rw [length_rangeD, List.length_nil]; omega) (fun d hd => by
    obtain ⟨k, hk, rfl⟩ := mem_rangeD hd
    obtain ⟨τ1, τ2, h1, h2, h3⟩ := h k hk
    exact ⟨_, τ1, τ2, h1, h2, h3, k, rfl, rfl⟩)
  rw [x_lc_range h0 N0 (by omega) hn, hw, e, x_lcE, List.nil_append]
  have key : ∀ {xs ys : List D} (l : List Nat), All2 (fun d e => ∃ k : Nat, d = .int (0 + (k : Nat)) ∧ e = F k) xs ys → xs = l.map (fun k => D.int (0 + ((k : Nat) : Int))) → ys = l.map F := fun {xs ys} l => by
    induction l generalizing xs ys with
    | nil => intro h e; subst e; cases ys with
      | nil => rfl
      | cons _ _ => exact h.elim
    | cons k l ih => intro h e; subst e; cases ys with
      | nil => exact h.elim
      | cons y ys =>
        obtain ⟨⟨k', h1, h2⟩, h3⟩ := h
        injection h1 with h1
        have : k' = k := by omega
        subst this
        rw [h2, ih h3 rfl]; rfl
  rw [key (List.range n) ha rfl]
theorem iL_var {τ : Bn.Env} {i : Nat} {es : List D} (h : τ.getD i none = some (.lst false es)) : iL (eVar i) τ = .ok es τ := by
  have : eVar i τ = .ok (.lst false es) τ := by unfold eVar; rw [h]; rfl
  rw [x_iL, this]; rfl
theorem lc_lst {own : List Nat} {g : D → Bn.Env → Option Bn.Env} {m : ME} {τ : Bn.Env} {i : Nat} {α : Type} {f : α → D} {es : List α} (F : α → D) (hE : τ.getD i none = some (.lst false (es.map f))) (hl : es.length ≤ 1000) (hw : wipeE τ own = τ)
    (h : ∀ d ∈ es, ∃ τ1 τ2, g (f d) τ = some τ1 ∧ m τ1 = .ok (F d) τ2 ∧ wipeE τ2 own = τ) : eLc own (iL (eVar i)) g tTrue m τ = .ok (.lst true (es.map F)) τ := by
  have key : ∀ (l : List α) (acc : List D), (∀ d ∈ l, d ∈ es) → acc.length + l.length ≤ 1000 → lcL own g tTrue m (l.map f) acc τ = .ok (acc ++ l.map F) τ := fun l => by
    induction l with
    | nil => intro acc _ _; rw [List.map_nil, List.map_nil, List.append_nil]; rfl
    | cons d l ih =>
      intro acc hd hn
      rw [List.length_cons] at hn
      obtain ⟨τ1, τ2, h1, h2, h3⟩ := h d (hd d List.mem_cons_self)
      rw [List.map_cons, x_lc1, h1, x_lcG, x_tTrue, x_b1, if_pos rfl, h2, x_b1, if_pos (by omega), h3, ih _ (fun x hx => hd x (List.mem_cons_of_mem _ hx)) (by rw [List.length_append]; simp only [List.length_cons, List.length_nil]; omega), List.append_assoc]
      rfl
  rw [x_lc, iL_var hE, x_b1, hw, key es [] (fun _ h => h) (by rw [List.length_nil]; omega), List.nil_append, x_lcE]
/-! spans by the program and by the law -/
theorem mulsp_ok {p q : Int × Int} {g : Int} (g1 : 1 ≤ g) (gb : g.natAbs < 2 ^ 60) (hp : Sz 1000 p) (hq : Sz 1000 q) : f_mul_spans [spD p, spD q, .int g] = .ok (spD (mulS p q g)) := by
  obtain ⟨a, b⟩ := p; obtain ⟨c, d⟩ := q
  obtain ⟨ha, hb⟩ := hp; obtain ⟨hc, hd⟩ := hq
  have w1 : L2.CMulW a c := mulW 1000 1000 ha hc (by decide)
  have w2 : L2.CMulW a d := mulW 1000 1000 ha hd (by decide)
  have w3 : L2.CMulW b c := mulW 1000 1000 hb hc (by decide)
  have w4 : L2.CMulW b d := mulW 1000 1000 hb hd (by decide)
  have d1 : g.natAbs.log2 < 9000 := by have := log2_le gb; omega
  have g0 : 0 < g := by omega
  clear ha hb hc hd
  simp (disch := decide) only [spD, mulS, f_mul_spans, m_mul_spans, x_seq, x_seq1, x_seq2, x_seq3, x_seq4, x_seq5, x_seq6, x_nil, x_if, x_if1, x_if2, x_if3, x_ret, x_ret1, x_ret2, x_ret3, x_retN, x_asg, x_asg1, x_asg2, x_asg3, x_asg4, x_asg5, x_gN, x_drop, x_drop1, x_drop2, x_bk, x_ct, x_raise, x_tZ, x_tZ1, x_tZ2, x_tE, x_tE1, x_tE2, x_tE3, x_tAnd, x_tAnd1, x_tAnd2, x_tAnd3, x_tOr, x_tOr1, x_tOr2, x_tOr3, x_tNot, x_tNot1, x_tNot2, x_tNot3, x_tTrue, x_z2, x_z21, x_z1, x_z11, x_zC, x_zC1, x_za, x_za1, x_za0, x_zV, x_zK, x_ch, x_ch1, x_ch2, x_eZ, x_eZ1, x_eZ2, x_eV, x_eV1, x_eM, x_eM1, x_b1, x_b2, x_b3, x_s1, x_s2, x_s3, x_oO, x_oO2, x_e2, x_e1, x_eC, x_aN, x_aC, x_tup, x_lst, x_call, x_oC1, x_oC2, x_call0, x_call01, x_eAnd, x_eAnd1, x_eOr, x_eOr1, x_eNot, x_eNot1, x_eIf, x_eIf1, x_fz_int, x_fr_int, x_fz_bl, x_fr_bl, x_fz_str, x_fr_str, x_fz_ty, x_fr_ty, x_fz_tup, x_fr_tup, x_fz_cst, x_fr_cst, x_fz_lst_false, x_fr_lst_false, x_fz_non, x_fr_non, x_fz_lt, x_fr_lt, x_fL0, x_fL1, x_cF, x_cR1, x_cR2, x_cR3, x_iL, x_iL1, x_iT, x_iT1, x_iS, x_iS1, x_iR1, x_iR11, x_iR2, x_iR21, x_iE, x_iE1, x_iV, x_iV1, x_iZ, x_iZ1, x_for, x_fo0, x_fo1, x_fo2, x_fo3, x_fo4, x_fo5, x_fo6, x_fo7, x_gT, x_gC, x_gC0, x_try, x_try1, x_try2, x_try3, x_try4, x_try5, x_nx1, x_nx2, x_try6, x_try7, x_nx3, x_nx4, x_app, x_app1, x_app2, x_lc, x_lcE, x_lc0, x_lc1, x_lcG, x_w0, x_w1, vMinL4, vMaxL4, vAll3, vAny3, vAll4, vAny4, x_wh1, x_wh2, x_wh0, x_abs, vI_ii, vI_ib, vI_it, vI_il, vI_is, vI_bb, vI_bi, vI_tt, vI_tl, vI_ti, vI_ll, vI_lt, vI_ss, vEqB, vNeB, x_ta, x_ta1, x_ta2, x_ta3, x_ta4, x_ta5, x_is, nc_0, nc_1, nc_2, nc_3, nc_4, nc_5, nc_6, nc_7, nc_8, nc_9, nc_10, nc_11, vMax2, vMin2, vIsN0, vIsN1, vNotN0, vNotN1, vIsN2, vNotN2, x_lo, x_lo1, x_lo2, vAll2, vAny2, x_sl, x_sl1, x_sl2, x_pn, x_ps, x_ps1, x_cutL, x_cutC, vEqS, vNeS, x_fz_obj, x_fr_obj, x_make, x_meth, x_meth2, x_meth3, x_isO, x_isO1, x_cat, x_cat1, x_methZ, x_methZ2, x_methZ3, x_callZ, x_callZ1, x_lend1, x_lend2, x_cl_int, x_cl_bl, x_cl_str, x_cl_non, x_cl_tup, x_cl0, x_cl1, x_cl_lst, x_setIx, x_setIx1, x_setIx2, x_callI, x_callI1, x_callI2, x_callI3, x_take0, x_take1, x_take2, x_put0, x_put1, x_cFI, x_cRI1, x_cRI2, x_outR, x_outR1, x_out1, x_out2, x_par, x_par1, x_sort, x_sort1, x_sort2, x_io2, x_io4, vIsB, x_pop, x_lr, x_lr1, x_clr, x_clr1, x_clrE, x_clrE1, x_pop1, x_pop2, x_ins, x_ins1, x_ins2, List.all_cons, List.all_nil, Option.isSome_some, Option.map_some, List.getD_cons_zero, List.getD_cons_succ, List.set_cons_zero, List.set_cons_succ, List.map_cons, List.map_nil, List.replicate_zero, List.replicate_succ, List.length_cons, List.length_nil, List.cons_append, List.nil_append, Option.bind_some, if_true, if_false, Bool.false_eq_true, Nat.reduceSub, Nat.reduceAdd, Nat.reduceLeDiff, Nat.reduceLT, vAdd, vSub, vLt, vLe, vGt, vGe, vNeg, vEq, vNe, vEq2, vNe2, vMod, vDiv, vMul, vPow, Int.reduceToNat, vIx0, vIx1, vLenT, vLenC, vLenL, reduceIte, decide_true, decide_false, Bool.not_true, Bool.not_false, beq_self_eq_true, Bool.and_true, Bool.true_and, Bool.and_self, Bool.and_false, Bool.false_and, vMul w1, vMul w2, vMul w3, vMul w4, vDiv g0 d1]
theorem addsp_ok (p q : Int × Int) : f_add_spans [spD p, spD q] = .ok (spD (addS p q)) := by
  simp (disch := decide) only [spD, addS, f_add_spans, m_add_spans, x_seq, x_seq1, x_seq2, x_seq3, x_seq4, x_seq5, x_seq6, x_nil, x_if, x_if1, x_if2, x_if3, x_ret, x_ret1, x_ret2, x_ret3, x_retN, x_asg, x_asg1, x_asg2, x_asg3, x_asg4, x_asg5, x_gN, x_drop, x_drop1, x_drop2, x_bk, x_ct, x_raise, x_tZ, x_tZ1, x_tZ2, x_tE, x_tE1, x_tE2, x_tE3, x_tAnd, x_tAnd1, x_tAnd2, x_tAnd3, x_tOr, x_tOr1, x_tOr2, x_tOr3, x_tNot, x_tNot1, x_tNot2, x_tNot3, x_tTrue, x_z2, x_z21, x_z1, x_z11, x_zC, x_zC1, x_za, x_za1, x_za0, x_zV, x_zK, x_ch, x_ch1, x_ch2, x_eZ, x_eZ1, x_eZ2, x_eV, x_eV1, x_eM, x_eM1, x_b1, x_b2, x_b3, x_s1, x_s2, x_s3, x_oO, x_oO2, x_e2, x_e1, x_eC, x_aN, x_aC, x_tup, x_lst, x_call, x_oC1, x_oC2, x_call0, x_call01, x_eAnd, x_eAnd1, x_eOr, x_eOr1, x_eNot, x_eNot1, x_eIf, x_eIf1, x_fz_int, x_fr_int, x_fz_bl, x_fr_bl, x_fz_str, x_fr_str, x_fz_ty, x_fr_ty, x_fz_tup, x_fr_tup, x_fz_cst, x_fr_cst, x_fz_lst_false, x_fr_lst_false, x_fz_non, x_fr_non, x_fz_lt, x_fr_lt, x_fL0, x_fL1, x_cF, x_cR1, x_cR2, x_cR3, x_iL, x_iL1, x_iT, x_iT1, x_iS, x_iS1, x_iR1, x_iR11, x_iR2, x_iR21, x_iE, x_iE1, x_iV, x_iV1, x_iZ, x_iZ1, x_for, x_fo0, x_fo1, x_fo2, x_fo3, x_fo4, x_fo5, x_fo6, x_fo7, x_gT, x_gC, x_gC0, x_try, x_try1, x_try2, x_try3, x_try4, x_try5, x_nx1, x_nx2, x_try6, x_try7, x_nx3, x_nx4, x_app, x_app1, x_app2, x_lc, x_lcE, x_lc0, x_lc1, x_lcG, x_w0, x_w1, vMinL4, vMaxL4, vAll3, vAny3, vAll4, vAny4, x_wh1, x_wh2, x_wh0, x_abs, vI_ii, vI_ib, vI_it, vI_il, vI_is, vI_bb, vI_bi, vI_tt, vI_tl, vI_ti, vI_ll, vI_lt, vI_ss, vEqB, vNeB, x_ta, x_ta1, x_ta2, x_ta3, x_ta4, x_ta5, x_is, nc_0, nc_1, nc_2, nc_3, nc_4, nc_5, nc_6, nc_7, nc_8, nc_9, nc_10, nc_11, vMax2, vMin2, vIsN0, vIsN1, vNotN0, vNotN1, vIsN2, vNotN2, x_lo, x_lo1, x_lo2, vAll2, vAny2, x_sl, x_sl1, x_sl2, x_pn, x_ps, x_ps1, x_cutL, x_cutC, vEqS, vNeS, x_fz_obj, x_fr_obj, x_make, x_meth, x_meth2, x_meth3, x_isO, x_isO1, x_cat, x_cat1, x_methZ, x_methZ2, x_methZ3, x_callZ, x_callZ1, x_lend1, x_lend2, x_cl_int, x_cl_bl, x_cl_str, x_cl_non, x_cl_tup, x_cl0, x_cl1, x_cl_lst, x_setIx, x_setIx1, x_setIx2, x_callI, x_callI1, x_callI2, x_callI3, x_take0, x_take1, x_take2, x_put0, x_put1, x_cFI, x_cRI1, x_cRI2, x_outR, x_outR1, x_out1, x_out2, x_par, x_par1, x_sort, x_sort1, x_sort2, x_io2, x_io4, vIsB, x_pop, x_lr, x_lr1, x_clr, x_clr1, x_clrE, x_clrE1, x_pop1, x_pop2, x_ins, x_ins1, x_ins2, List.all_cons, List.all_nil, Option.isSome_some, Option.map_some, List.getD_cons_zero, List.getD_cons_succ, List.set_cons_zero, List.set_cons_succ, List.map_cons, List.map_nil, List.replicate_zero, List.replicate_succ, List.length_cons, List.length_nil, List.cons_append, List.nil_append, Option.bind_some, if_true, if_false, Bool.false_eq_true, Nat.reduceSub, Nat.reduceAdd, Nat.reduceLeDiff, Nat.reduceLT, vAdd, vSub, vLt, vLe, vGt, vGe, vNeg, vEq, vNe, vEq2, vNe2, vMod, vDiv, vMul, vPow, Int.reduceToNat, vIx0, vIx1, vLenT, vLenC, vLenL, reduceIte, decide_true, decide_false, Bool.not_true, Bool.not_false, beq_self_eq_true, Bool.and_true, Bool.true_and, Bool.and_self, Bool.and_false, Bool.false_and]
theorem takesp_ok (p q : Int × Int) : f_take_spans [spD p, spD q] = .ok (spD (subS p q)) := by
  simp (disch := decide) only [spD, subS, f_take_spans, m_take_spans, x_seq, x_seq1, x_seq2, x_seq3, x_seq4, x_seq5, x_seq6, x_nil, x_if, x_if1, x_if2, x_if3, x_ret, x_ret1, x_ret2, x_ret3, x_retN, x_asg, x_asg1, x_asg2, x_asg3, x_asg4, x_asg5, x_gN, x_drop, x_drop1, x_drop2, x_bk, x_ct, x_raise, x_tZ, x_tZ1, x_tZ2, x_tE, x_tE1, x_tE2, x_tE3, x_tAnd, x_tAnd1, x_tAnd2, x_tAnd3, x_tOr, x_tOr1, x_tOr2, x_tOr3, x_tNot, x_tNot1, x_tNot2, x_tNot3, x_tTrue, x_z2, x_z21, x_z1, x_z11, x_zC, x_zC1, x_za, x_za1, x_za0, x_zV, x_zK, x_ch, x_ch1, x_ch2, x_eZ, x_eZ1, x_eZ2, x_eV, x_eV1, x_eM, x_eM1, x_b1, x_b2, x_b3, x_s1, x_s2, x_s3, x_oO, x_oO2, x_e2, x_e1, x_eC, x_aN, x_aC, x_tup, x_lst, x_call, x_oC1, x_oC2, x_call0, x_call01, x_eAnd, x_eAnd1, x_eOr, x_eOr1, x_eNot, x_eNot1, x_eIf, x_eIf1, x_fz_int, x_fr_int, x_fz_bl, x_fr_bl, x_fz_str, x_fr_str, x_fz_ty, x_fr_ty, x_fz_tup, x_fr_tup, x_fz_cst, x_fr_cst, x_fz_lst_false, x_fr_lst_false, x_fz_non, x_fr_non, x_fz_lt, x_fr_lt, x_fL0, x_fL1, x_cF, x_cR1, x_cR2, x_cR3, x_iL, x_iL1, x_iT, x_iT1, x_iS, x_iS1, x_iR1, x_iR11, x_iR2, x_iR21, x_iE, x_iE1, x_iV, x_iV1, x_iZ, x_iZ1, x_for, x_fo0, x_fo1, x_fo2, x_fo3, x_fo4, x_fo5, x_fo6, x_fo7, x_gT, x_gC, x_gC0, x_try, x_try1, x_try2, x_try3, x_try4, x_try5, x_nx1, x_nx2, x_try6, x_try7, x_nx3, x_nx4, x_app, x_app1, x_app2, x_lc, x_lcE, x_lc0, x_lc1, x_lcG, x_w0, x_w1, vMinL4, vMaxL4, vAll3, vAny3, vAll4, vAny4, x_wh1, x_wh2, x_wh0, x_abs, vI_ii, vI_ib, vI_it, vI_il, vI_is, vI_bb, vI_bi, vI_tt, vI_tl, vI_ti, vI_ll, vI_lt, vI_ss, vEqB, vNeB, x_ta, x_ta1, x_ta2, x_ta3, x_ta4, x_ta5, x_is, nc_0, nc_1, nc_2, nc_3, nc_4, nc_5, nc_6, nc_7, nc_8, nc_9, nc_10, nc_11, vMax2, vMin2, vIsN0, vIsN1, vNotN0, vNotN1, vIsN2, vNotN2, x_lo, x_lo1, x_lo2, vAll2, vAny2, x_sl, x_sl1, x_sl2, x_pn, x_ps, x_ps1, x_cutL, x_cutC, vEqS, vNeS, x_fz_obj, x_fr_obj, x_make, x_meth, x_meth2, x_meth3, x_isO, x_isO1, x_cat, x_cat1, x_methZ, x_methZ2, x_methZ3, x_callZ, x_callZ1, x_lend1, x_lend2, x_cl_int, x_cl_bl, x_cl_str, x_cl_non, x_cl_tup, x_cl0, x_cl1, x_cl_lst, x_setIx, x_setIx1, x_setIx2, x_callI, x_callI1, x_callI2, x_callI3, x_take0, x_take1, x_take2, x_put0, x_put1, x_cFI, x_cRI1, x_cRI2, x_outR, x_outR1, x_out1, x_out2, x_par, x_par1, x_sort, x_sort1, x_sort2, x_io2, x_io4, vIsB, x_pop, x_lr, x_lr1, x_clr, x_clr1, x_clrE, x_clrE1, x_pop1, x_pop2, x_ins, x_ins1, x_ins2, List.all_cons, List.all_nil, Option.isSome_some, Option.map_some, List.getD_cons_zero, List.getD_cons_succ, List.set_cons_zero, List.set_cons_succ, List.map_cons, List.map_nil, List.replicate_zero, List.replicate_succ, List.length_cons, List.length_nil, List.cons_append, List.nil_append, Option.bind_some, if_true, if_false, Bool.false_eq_true, Nat.reduceSub, Nat.reduceAdd, Nat.reduceLeDiff, Nat.reduceLT, vAdd, vSub, vLt, vLe, vGt, vGe, vNeg, vEq, vNe, vEq2, vNe2, vMod, vDiv, vMul, vPow, Int.reduceToNat, vIx0, vIx1, vLenT, vLenC, vLenL, reduceIte, decide_true, decide_false, Bool.not_true, Bool.not_false, beq_self_eq_true, Bool.and_true, Bool.true_and, Bool.and_self, Bool.and_false, Bool.false_and]
theorem lprod_ok {p q : Int × Int} {g : Int} (g1 : 1 ≤ g) (gb : g.natAbs < 2 ^ 60) (hp : Sz 1000 p) (hq : Sz 1000 q) : f__law_product [spD p, spD q, .int g] = .ok (spD (mulS p q g)) := product_ok g1 gb hp.1 hp.2 hq.1 hq.2
theorem lplus_ok (p q : Int × Int) : f__law_plus [spD p, spD q] = .ok (spD (addS p q)) := by
  simp (disch := decide) only [spD, addS, f__law_plus, m__law_plus, x_seq, x_seq1, x_seq2, x_seq3, x_seq4, x_seq5, x_seq6, x_nil, x_if, x_if1, x_if2, x_if3, x_ret, x_ret1, x_ret2, x_ret3, x_retN, x_asg, x_asg1, x_asg2, x_asg3, x_asg4, x_asg5, x_gN, x_drop, x_drop1, x_drop2, x_bk, x_ct, x_raise, x_tZ, x_tZ1, x_tZ2, x_tE, x_tE1, x_tE2, x_tE3, x_tAnd, x_tAnd1, x_tAnd2, x_tAnd3, x_tOr, x_tOr1, x_tOr2, x_tOr3, x_tNot, x_tNot1, x_tNot2, x_tNot3, x_tTrue, x_z2, x_z21, x_z1, x_z11, x_zC, x_zC1, x_za, x_za1, x_za0, x_zV, x_zK, x_ch, x_ch1, x_ch2, x_eZ, x_eZ1, x_eZ2, x_eV, x_eV1, x_eM, x_eM1, x_b1, x_b2, x_b3, x_s1, x_s2, x_s3, x_oO, x_oO2, x_e2, x_e1, x_eC, x_aN, x_aC, x_tup, x_lst, x_call, x_oC1, x_oC2, x_call0, x_call01, x_eAnd, x_eAnd1, x_eOr, x_eOr1, x_eNot, x_eNot1, x_eIf, x_eIf1, x_fz_int, x_fr_int, x_fz_bl, x_fr_bl, x_fz_str, x_fr_str, x_fz_ty, x_fr_ty, x_fz_tup, x_fr_tup, x_fz_cst, x_fr_cst, x_fz_lst_false, x_fr_lst_false, x_fz_non, x_fr_non, x_fz_lt, x_fr_lt, x_fL0, x_fL1, x_cF, x_cR1, x_cR2, x_cR3, x_iL, x_iL1, x_iT, x_iT1, x_iS, x_iS1, x_iR1, x_iR11, x_iR2, x_iR21, x_iE, x_iE1, x_iV, x_iV1, x_iZ, x_iZ1, x_for, x_fo0, x_fo1, x_fo2, x_fo3, x_fo4, x_fo5, x_fo6, x_fo7, x_gT, x_gC, x_gC0, x_try, x_try1, x_try2, x_try3, x_try4, x_try5, x_nx1, x_nx2, x_try6, x_try7, x_nx3, x_nx4, x_app, x_app1, x_app2, x_lc, x_lcE, x_lc0, x_lc1, x_lcG, x_w0, x_w1, vMinL4, vMaxL4, vAll3, vAny3, vAll4, vAny4, x_wh1, x_wh2, x_wh0, x_abs, vI_ii, vI_ib, vI_it, vI_il, vI_is, vI_bb, vI_bi, vI_tt, vI_tl, vI_ti, vI_ll, vI_lt, vI_ss, vEqB, vNeB, x_ta, x_ta1, x_ta2, x_ta3, x_ta4, x_ta5, x_is, nc_0, nc_1, nc_2, nc_3, nc_4, nc_5, nc_6, nc_7, nc_8, nc_9, nc_10, nc_11, vMax2, vMin2, vIsN0, vIsN1, vNotN0, vNotN1, vIsN2, vNotN2, x_lo, x_lo1, x_lo2, vAll2, vAny2, x_sl, x_sl1, x_sl2, x_pn, x_ps, x_ps1, x_cutL, x_cutC, vEqS, vNeS, x_fz_obj, x_fr_obj, x_make, x_meth, x_meth2, x_meth3, x_isO, x_isO1, x_cat, x_cat1, x_methZ, x_methZ2, x_methZ3, x_callZ, x_callZ1, x_lend1, x_lend2, x_cl_int, x_cl_bl, x_cl_str, x_cl_non, x_cl_tup, x_cl0, x_cl1, x_cl_lst, x_setIx, x_setIx1, x_setIx2, x_callI, x_callI1, x_callI2, x_callI3, x_take0, x_take1, x_take2, x_put0, x_put1, x_cFI, x_cRI1, x_cRI2, x_outR, x_outR1, x_out1, x_out2, x_par, x_par1, x_sort, x_sort1, x_sort2, x_io2, x_io4, vIsB, x_pop, x_lr, x_lr1, x_clr, x_clr1, x_clrE, x_clrE1, x_pop1, x_pop2, x_ins, x_ins1, x_ins2, List.all_cons, List.all_nil, Option.isSome_some, Option.map_some, List.getD_cons_zero, List.getD_cons_succ, List.set_cons_zero, List.set_cons_succ, List.map_cons, List.map_nil, List.replicate_zero, List.replicate_succ, List.length_cons, List.length_nil, List.cons_append, List.nil_append, Option.bind_some, if_true, if_false, Bool.false_eq_true, Nat.reduceSub, Nat.reduceAdd, Nat.reduceLeDiff, Nat.reduceLT, vAdd, vSub, vLt, vLe, vGt, vGe, vNeg, vEq, vNe, vEq2, vNe2, vMod, vDiv, vMul, vPow, Int.reduceToNat, vIx0, vIx1, vLenT, vLenC, vLenL, reduceIte, decide_true, decide_false, Bool.not_true, Bool.not_false, beq_self_eq_true, Bool.and_true, Bool.true_and, Bool.and_self, Bool.and_false, Bool.false_and]
theorem lless_ok (p q : Int × Int) : f__law_less [spD p, spD q] = .ok (spD (subS p q)) := by
  simp (disch := decide) only [spD, subS, f__law_less, m__law_less, x_seq, x_seq1, x_seq2, x_seq3, x_seq4, x_seq5, x_seq6, x_nil, x_if, x_if1, x_if2, x_if3, x_ret, x_ret1, x_ret2, x_ret3, x_retN, x_asg, x_asg1, x_asg2, x_asg3, x_asg4, x_asg5, x_gN, x_drop, x_drop1, x_drop2, x_bk, x_ct, x_raise, x_tZ, x_tZ1, x_tZ2, x_tE, x_tE1, x_tE2, x_tE3, x_tAnd, x_tAnd1, x_tAnd2, x_tAnd3, x_tOr, x_tOr1, x_tOr2, x_tOr3, x_tNot, x_tNot1, x_tNot2, x_tNot3, x_tTrue, x_z2, x_z21, x_z1, x_z11, x_zC, x_zC1, x_za, x_za1, x_za0, x_zV, x_zK, x_ch, x_ch1, x_ch2, x_eZ, x_eZ1, x_eZ2, x_eV, x_eV1, x_eM, x_eM1, x_b1, x_b2, x_b3, x_s1, x_s2, x_s3, x_oO, x_oO2, x_e2, x_e1, x_eC, x_aN, x_aC, x_tup, x_lst, x_call, x_oC1, x_oC2, x_call0, x_call01, x_eAnd, x_eAnd1, x_eOr, x_eOr1, x_eNot, x_eNot1, x_eIf, x_eIf1, x_fz_int, x_fr_int, x_fz_bl, x_fr_bl, x_fz_str, x_fr_str, x_fz_ty, x_fr_ty, x_fz_tup, x_fr_tup, x_fz_cst, x_fr_cst, x_fz_lst_false, x_fr_lst_false, x_fz_non, x_fr_non, x_fz_lt, x_fr_lt, x_fL0, x_fL1, x_cF, x_cR1, x_cR2, x_cR3, x_iL, x_iL1, x_iT, x_iT1, x_iS, x_iS1, x_iR1, x_iR11, x_iR2, x_iR21, x_iE, x_iE1, x_iV, x_iV1, x_iZ, x_iZ1, x_for, x_fo0, x_fo1, x_fo2, x_fo3, x_fo4, x_fo5, x_fo6, x_fo7, x_gT, x_gC, x_gC0, x_try, x_try1, x_try2, x_try3, x_try4, x_try5, x_nx1, x_nx2, x_try6, x_try7, x_nx3, x_nx4, x_app, x_app1, x_app2, x_lc, x_lcE, x_lc0, x_lc1, x_lcG, x_w0, x_w1, vMinL4, vMaxL4, vAll3, vAny3, vAll4, vAny4, x_wh1, x_wh2, x_wh0, x_abs, vI_ii, vI_ib, vI_it, vI_il, vI_is, vI_bb, vI_bi, vI_tt, vI_tl, vI_ti, vI_ll, vI_lt, vI_ss, vEqB, vNeB, x_ta, x_ta1, x_ta2, x_ta3, x_ta4, x_ta5, x_is, nc_0, nc_1, nc_2, nc_3, nc_4, nc_5, nc_6, nc_7, nc_8, nc_9, nc_10, nc_11, vMax2, vMin2, vIsN0, vIsN1, vNotN0, vNotN1, vIsN2, vNotN2, x_lo, x_lo1, x_lo2, vAll2, vAny2, x_sl, x_sl1, x_sl2, x_pn, x_ps, x_ps1, x_cutL, x_cutC, vEqS, vNeS, x_fz_obj, x_fr_obj, x_make, x_meth, x_meth2, x_meth3, x_isO, x_isO1, x_cat, x_cat1, x_methZ, x_methZ2, x_methZ3, x_callZ, x_callZ1, x_lend1, x_lend2, x_cl_int, x_cl_bl, x_cl_str, x_cl_non, x_cl_tup, x_cl0, x_cl1, x_cl_lst, x_setIx, x_setIx1, x_setIx2, x_callI, x_callI1, x_callI2, x_callI3, x_take0, x_take1, x_take2, x_put0, x_put1, x_cFI, x_cRI1, x_cRI2, x_outR, x_outR1, x_out1, x_out2, x_par, x_par1, x_sort, x_sort1, x_sort2, x_io2, x_io4, vIsB, x_pop, x_lr, x_lr1, x_clr, x_clr1, x_clrE, x_clrE1, x_pop1, x_pop2, x_ins, x_ins1, x_ins2, List.all_cons, List.all_nil, Option.isSome_some, Option.map_some, List.getD_cons_zero, List.getD_cons_succ, List.set_cons_zero, List.set_cons_succ, List.map_cons, List.map_nil, List.replicate_zero, List.replicate_succ, List.length_cons, List.length_nil, List.cons_append, List.nil_append, Option.bind_some, if_true, if_false, Bool.false_eq_true, Nat.reduceSub, Nat.reduceAdd, Nat.reduceLeDiff, Nat.reduceLT, vAdd, vSub, vLt, vLe, vGt, vGe, vNeg, vEq, vNe, vEq2, vNe2, vMod, vDiv, vMul, vPow, Int.reduceToNat, vIx0, vIx1, vLenT, vLenC, vLenL, reduceIte, decide_true, decide_false, Bool.not_true, Bool.not_false, beq_self_eq_true, Bool.and_true, Bool.true_and, Bool.and_self, Bool.and_false, Bool.false_and]
/-- what a power's slope takes its part's slope with -/
def facS (p : Int × Int) (m g : Int) : Int × Int := if m = 2 then (p.1 * 2, p.2 * 2) else ((powS p (m - 1).toNat g).1 * m, (powS p (m - 1).toNat g).2 * m)
theorem scale_ok {p : Int × Int} {m : Int} (h : p.1 ≤ p.2) (m1 : 1 ≤ m) (m6 : m ≤ 6) (s : Sz 1000 p) : f_scale_span [spD p, .int m] = .ok (.tup [.int (p.1 * m), .int (p.2 * m)]) := by
  obtain ⟨a, b⟩ := p
  have w1 : L2.CMulW a m := mulW 1000 10 s.1 (by omega) (by decide)
  have w2 : L2.CMulW b m := mulW 1000 10 s.2 (by omega) (by decide)
  have hle : a * m ≤ b * m := Int.mul_le_mul_of_nonneg_right h (by omega)
  have e1 : mnI (a * m) (b * m) = a * m := by unfold mnI; split <;> omega
  have e2 : mxI (a * m) (b * m) = b * m := by unfold mxI; split <;> omega
  clear s
  simp (disch := decide) only [spD, f_scale_span, m_scale_span, x_seq, x_seq1, x_seq2, x_seq3, x_seq4, x_seq5, x_seq6, x_nil, x_if, x_if1, x_if2, x_if3, x_ret, x_ret1, x_ret2, x_ret3, x_retN, x_asg, x_asg1, x_asg2, x_asg3, x_asg4, x_asg5, x_gN, x_drop, x_drop1, x_drop2, x_bk, x_ct, x_raise, x_tZ, x_tZ1, x_tZ2, x_tE, x_tE1, x_tE2, x_tE3, x_tAnd, x_tAnd1, x_tAnd2, x_tAnd3, x_tOr, x_tOr1, x_tOr2, x_tOr3, x_tNot, x_tNot1, x_tNot2, x_tNot3, x_tTrue, x_z2, x_z21, x_z1, x_z11, x_zC, x_zC1, x_za, x_za1, x_za0, x_zV, x_zK, x_ch, x_ch1, x_ch2, x_eZ, x_eZ1, x_eZ2, x_eV, x_eV1, x_eM, x_eM1, x_b1, x_b2, x_b3, x_s1, x_s2, x_s3, x_oO, x_oO2, x_e2, x_e1, x_eC, x_aN, x_aC, x_tup, x_lst, x_call, x_oC1, x_oC2, x_call0, x_call01, x_eAnd, x_eAnd1, x_eOr, x_eOr1, x_eNot, x_eNot1, x_eIf, x_eIf1, x_fz_int, x_fr_int, x_fz_bl, x_fr_bl, x_fz_str, x_fr_str, x_fz_ty, x_fr_ty, x_fz_tup, x_fr_tup, x_fz_cst, x_fr_cst, x_fz_lst_false, x_fr_lst_false, x_fz_non, x_fr_non, x_fz_lt, x_fr_lt, x_fL0, x_fL1, x_cF, x_cR1, x_cR2, x_cR3, x_iL, x_iL1, x_iT, x_iT1, x_iS, x_iS1, x_iR1, x_iR11, x_iR2, x_iR21, x_iE, x_iE1, x_iV, x_iV1, x_iZ, x_iZ1, x_for, x_fo0, x_fo1, x_fo2, x_fo3, x_fo4, x_fo5, x_fo6, x_fo7, x_gT, x_gC, x_gC0, x_try, x_try1, x_try2, x_try3, x_try4, x_try5, x_nx1, x_nx2, x_try6, x_try7, x_nx3, x_nx4, x_app, x_app1, x_app2, x_lc, x_lcE, x_lc0, x_lc1, x_lcG, x_w0, x_w1, vMinL4, vMaxL4, vAll3, vAny3, vAll4, vAny4, x_wh1, x_wh2, x_wh0, x_abs, vI_ii, vI_ib, vI_it, vI_il, vI_is, vI_bb, vI_bi, vI_tt, vI_tl, vI_ti, vI_ll, vI_lt, vI_ss, vEqB, vNeB, x_ta, x_ta1, x_ta2, x_ta3, x_ta4, x_ta5, x_is, nc_0, nc_1, nc_2, nc_3, nc_4, nc_5, nc_6, nc_7, nc_8, nc_9, nc_10, nc_11, vMax2, vMin2, vIsN0, vIsN1, vNotN0, vNotN1, vIsN2, vNotN2, x_lo, x_lo1, x_lo2, vAll2, vAny2, x_sl, x_sl1, x_sl2, x_pn, x_ps, x_ps1, x_cutL, x_cutC, vEqS, vNeS, x_fz_obj, x_fr_obj, x_make, x_meth, x_meth2, x_meth3, x_isO, x_isO1, x_cat, x_cat1, x_methZ, x_methZ2, x_methZ3, x_callZ, x_callZ1, x_lend1, x_lend2, x_cl_int, x_cl_bl, x_cl_str, x_cl_non, x_cl_tup, x_cl0, x_cl1, x_cl_lst, x_setIx, x_setIx1, x_setIx2, x_callI, x_callI1, x_callI2, x_callI3, x_take0, x_take1, x_take2, x_put0, x_put1, x_cFI, x_cRI1, x_cRI2, x_outR, x_outR1, x_out1, x_out2, x_par, x_par1, x_sort, x_sort1, x_sort2, x_io2, x_io4, vIsB, x_pop, x_lr, x_lr1, x_clr, x_clr1, x_clrE, x_clrE1, x_pop1, x_pop2, x_ins, x_ins1, x_ins2, List.all_cons, List.all_nil, Option.isSome_some, Option.map_some, List.getD_cons_zero, List.getD_cons_succ, List.set_cons_zero, List.set_cons_succ, List.map_cons, List.map_nil, List.replicate_zero, List.replicate_succ, List.length_cons, List.length_nil, List.cons_append, List.nil_append, Option.bind_some, if_true, if_false, Bool.false_eq_true, Nat.reduceSub, Nat.reduceAdd, Nat.reduceLeDiff, Nat.reduceLT, vAdd, vSub, vLt, vLe, vGt, vGe, vNeg, vEq, vNe, vEq2, vNe2, vMod, vDiv, vMul, vPow, Int.reduceToNat, vIx0, vIx1, vLenT, vLenC, vLenL, reduceIte, decide_true, decide_false, Bool.not_true, Bool.not_false, beq_self_eq_true, Bool.and_true, Bool.true_and, Bool.and_self, Bool.and_false, Bool.false_and, vMul w1, vMul w2, e1, e2]
theorem raisesp_ok {k g a b : Int}
    (ab : a ≤ b) (k2 : 2 ≤ k) (k6 : k ≤ 6) (g1 : 1 ≤ g) (gb : g.natAbs < 2 ^ 60) (ha : a.natAbs < 2 ^ 1000) (hb : b.natAbs < 2 ^ 1000) : 
    f_raise_span [.tup [.int a, .int b], .int k, .int g] = .ok (spD (powS (a, b) k.toNat g)) := by
  obtain ⟨n, hn⟩ : ∃ n, k.toNat = n := ⟨_, rfl⟩
  have mg := mult_j (w := 60) (j := k - 1) (by decide) gb (n - 1) (by omega) (by omega) (by omega) (by omega)
  have ma := mult_j (w := 1000) (j := k) (by decide) ha n (by omega) (by omega) (by omega) (by omega)
  have mb := mult_j (w := 1000) (j := k) (by decide) hb n (by omega) (by omega) (by omega) (by omega)
  have s0 : 0 < g ^ (n - 1) := Int.pow_pos (by omega)
  have s1 : (g ^ (n - 1)).natAbs.log2 < 9000 := by
    have h1 := log2_le (pow_size gb (n - 1))
    have : n - 1 ≤ 5 := by omega
    have := Nat.mul_le_mul_left 60 this
    omega
  have par : (k % 2 == 0) = decide (n % 2 = 0) := by
    by_cases h : n % 2 = 0
    · rw [decide_eq_true h]; simp; omega
    · rw [decide_eq_false h]; simp; omega
  have nz : n ≠ 0 := by omega
  have hev : n % 2 = 0 → a ≤ 0 → 0 ≤ b → ¬(a < 0 ∧ 0 < b) → mnI (a ^ n) (b ^ n) = 0 := fun h h1 h2 h3 => by
    have z0 : (0 : Int) ^ n = 0 := Int.zero_pow nz
    have a0 := pow_even_nonneg a h
    have b0 := pow_even_nonneg b h
    have key : ∀ x y : Int, 0 ≤ x → 0 ≤ y → (x = 0 ∨ y = 0) → mnI x y = 0 := by
      intro x y hx hy h
      have := mnI_le x y
      omega
    refine key _ _ a0 b0 ?_
    rcases (by omega : a = 0 ∨ b = 0) with r | r
    · exact .inl (by rw [r]; exact z0)
    · exact .inr (by rw [r]; exact z0)
  generalize hA : a ^ n = A at *
  generalize hB : b ^ n = B' at *
  generalize hG : g ^ (n - 1) = G at *
  have ok1 : ∀ l : Int, (if (decide (n % 2 = 0) && (decide (a < 0) && decide (0 < b))) = true then (0 : Int) else mnI A B') = l → f_raise_span [.tup [.int a, .int b], .int k, .int g] = .ok (.tup [.int (l / G), .int (-(-mxI A B' / G))]) := fun l hl => by
    cases q1 : decide (n % 2 = 0) <;> cases q2 : decide (a < 0) <;> cases q3 : decide (0 < b) <;> rw [q1, q2, q3] at hl <;> simp only [Bool.and_true, Bool.and_false, Bool.true_and, Bool.false_and, Bool.and_self, Bool.false_eq_true, if_false, if_true] at hl <;> subst hl <;>
      simp (disch := decide) only [f_raise_span, m_raise_span, x_seq, x_seq1, x_seq2, x_seq3, x_seq4, x_seq5, x_seq6, x_nil, x_if, x_if1, x_if2, x_if3, x_ret, x_ret1, x_ret2, x_ret3, x_retN, x_asg, x_asg1, x_asg2, x_asg3, x_asg4, x_asg5, x_gN, x_drop, x_drop1, x_drop2, x_bk, x_ct, x_raise, x_tZ, x_tZ1, x_tZ2, x_tE, x_tE1, x_tE2, x_tE3, x_tAnd, x_tAnd1, x_tAnd2, x_tAnd3, x_tOr, x_tOr1, x_tOr2, x_tOr3, x_tNot, x_tNot1, x_tNot2, x_tNot3, x_tTrue, x_z2, x_z21, x_z1, x_z11, x_zC, x_zC1, x_za, x_za1, x_za0, x_zV, x_zK, x_ch, x_ch1, x_ch2, x_eZ, x_eZ1, x_eZ2, x_eV, x_eV1, x_eM, x_eM1, x_b1, x_b2, x_b3, x_s1, x_s2, x_s3, x_oO, x_oO2, x_e2, x_e1, x_eC, x_aN, x_aC, x_tup, x_lst, x_call, x_oC1, x_oC2, x_call0, x_call01, x_eAnd, x_eAnd1, x_eOr, x_eOr1, x_eNot, x_eNot1, x_eIf, x_eIf1, x_fz_int, x_fr_int, x_fz_bl, x_fr_bl, x_fz_str, x_fr_str, x_fz_ty, x_fr_ty, x_fz_tup, x_fr_tup, x_fz_cst, x_fr_cst, x_fz_lst_false, x_fr_lst_false, x_fz_non, x_fr_non, x_fz_lt, x_fr_lt, x_fL0, x_fL1, x_cF, x_cR1, x_cR2, x_cR3, x_iL, x_iL1, x_iT, x_iT1, x_iS, x_iS1, x_iR1, x_iR11, x_iR2, x_iR21, x_iE, x_iE1, x_iV, x_iV1, x_iZ, x_iZ1, x_for, x_fo0, x_fo1, x_fo2, x_fo3, x_fo4, x_fo5, x_fo6, x_fo7, x_gT, x_gC, x_gC0, x_try, x_try1, x_try2, x_try3, x_try4, x_try5, x_nx1, x_nx2, x_try6, x_try7, x_nx3, x_nx4, x_app, x_app1, x_app2, x_lc, x_lcE, x_lc0, x_lc1, x_lcG, x_w0, x_w1, vMinL4, vMaxL4, vAll3, vAny3, vAll4, vAny4, x_wh1, x_wh2, x_wh0, x_abs, vI_ii, vI_ib, vI_it, vI_il, vI_is, vI_bb, vI_bi, vI_tt, vI_tl, vI_ti, vI_ll, vI_lt, vI_ss, vEqB, vNeB, x_ta, x_ta1, x_ta2, x_ta3, x_ta4, x_ta5, x_is, nc_0, nc_1, nc_2, nc_3, nc_4, nc_5, nc_6, nc_7, nc_8, nc_9, nc_10, nc_11, vMax2, vMin2, vIsN0, vIsN1, vNotN0, vNotN1, vIsN2, vNotN2, x_lo, x_lo1, x_lo2, vAll2, vAny2, x_sl, x_sl1, x_sl2, x_pn, x_ps, x_ps1, x_cutL, x_cutC, vEqS, vNeS, x_fz_obj, x_fr_obj, x_make, x_meth, x_meth2, x_meth3, x_isO, x_isO1, x_cat, x_cat1, x_methZ, x_methZ2, x_methZ3, x_callZ, x_callZ1, x_lend1, x_lend2, x_cl_int, x_cl_bl, x_cl_str, x_cl_non, x_cl_tup, x_cl0, x_cl1, x_cl_lst, x_setIx, x_setIx1, x_setIx2, x_callI, x_callI1, x_callI2, x_callI3, x_take0, x_take1, x_take2, x_put0, x_put1, x_cFI, x_cRI1, x_cRI2, x_outR, x_outR1, x_out1, x_out2, x_par, x_par1, x_sort, x_sort1, x_sort2, x_io2, x_io4, vIsB, x_pop, x_lr, x_lr1, x_clr, x_clr1, x_clrE, x_clrE1, x_pop1, x_pop2, x_ins, x_ins1, x_ins2, List.all_cons, List.all_nil, Option.isSome_some, Option.map_some, List.getD_cons_zero, List.getD_cons_succ, List.set_cons_zero, List.set_cons_succ, List.map_cons, List.map_nil, List.replicate_zero, List.replicate_succ, List.length_cons, List.length_nil, List.cons_append, List.nil_append, Option.bind_some, if_true, if_false, Bool.false_eq_true, Nat.reduceSub, Nat.reduceAdd, Nat.reduceLeDiff, Nat.reduceLT, vAdd, vSub, vLt, vLe, vGt, vGe, vNeg, vEq, vNe, vEq2, vNe2, vMod, vDiv, vMul, vPow, Int.reduceToNat, vIx0, vIx1, vLenT, vLenC, vLenL, reduceIte, decide_true, decide_false, Bool.not_true, Bool.not_false, beq_self_eq_true, Bool.and_true, Bool.true_and, Bool.and_self, Bool.and_false, Bool.false_and, mg, ma, mb, par, q1, q2, q3, vDiv s0 s1]
  have and3 : ∀ {P Q R : Prop} [Decidable P] [Decidable Q] [Decidable R], (decide P && (decide Q && decide R)) = true ↔ P ∧ Q ∧ R := by intro P Q R _ _ _; simp
  have hlow : (if (decide (n % 2 = 0) && (decide (a < 0) && decide (0 < b))) = true then (0 : Int) else mnI A B') = lowP a b n ∧ (if (decide (n % 2 = 0) && (decide (a ≤ 0) && decide (0 ≤ b))) = true then (0 : Int) else mnI A B') = lowP a b n := by
    have e2 : (if (decide (n % 2 = 0) && (decide (a ≤ 0) && decide (0 ≤ b))) = true then (0 : Int) else mnI A B') = lowP a b n := by
      unfold lowP
      rw [hA, hB]
      by_cases q3 : n % 2 = 0 ∧ a ≤ 0 ∧ 0 ≤ b
      · rw [if_pos (and3.mpr q3), if_pos q3]
      · rw [if_neg (fun z => q3 (and3.mp z)), if_neg q3]
    refine ⟨?_, e2⟩
    rw [← e2]
    by_cases q : n % 2 = 0 ∧ a < 0 ∧ 0 < b
    · rw [if_pos (and3.mpr q), if_pos (and3.mpr ⟨q.1, Int.le_of_lt q.2.1, Int.le_of_lt q.2.2⟩)]
    · rw [if_neg (fun z => q (and3.mp z))]
      by_cases q3 : n % 2 = 0 ∧ a ≤ 0 ∧ 0 ≤ b
      · rw [if_pos (and3.mpr q3), hev q3.1 q3.2.1 q3.2.2 (fun z => q ⟨q3.1, z⟩)]
      · rw [if_neg (fun z => q3 (and3.mp z))]
  have e0 : powS (a, b) k.toNat g = (lowP a b n / G, -(-mxI A B' / G)) := by
    unfold powS
    rw [hn]
    show (lowP a b n / g ^ (n - 1), -(-mxI (a ^ n) (b ^ n) / g ^ (n - 1))) = _
    rw [hA, hB, hG]
  rw [e0]
  exact ok1 _ hlow.1
theorem rise_ok {p : Int × Int} {m g : Int} (h : p.1 ≤ p.2) (m2 : 2 ≤ m) (m6 : m ≤ 6) (g1 : 1 ≤ g) (gb : g.natAbs < 2 ^ 60) (s : Sz 1000 p) (s2 : Sz 1000 (powS p (m - 1).toNat g)) (h2 : (powS p (m - 1).toNat g).1 ≤ (powS p (m - 1).toNat g).2) : f_rise [spD p, .int m, .int g] = .ok (spD (facS p m g)) ∧ f__law_factor [spD p, .int m, .int g] = .ok (spD (facS p m g)) := by
  have w1 : L2.CMulW p.1 m := mulW 1000 10 s.1 (by omega) (by decide)
  have w2 : L2.CMulW p.2 m := mulW 1000 10 s.2 (by omega) (by decide)
  have w3 : L2.CMulW (powS p (m - 1).toNat g).1 m := mulW 1000 10 s2.1 (by omega) (by decide)
  have w4 : L2.CMulW (powS p (m - 1).toNat g).2 m := mulW 1000 10 s2.2 (by omega) (by decide)
  cases hm : decide (2 < m) with
  | true =>
    have hm' := of_decide_eq_true hm
    have hq : (m == 2) = false := by simp; omega
    have hf : facS p m g = ((powS p (m - 1).toNat g).1 * m, (powS p (m - 1).toNat g).2 * m) := if_neg (by omega)
    have e1 := raisesp_ok h (show 2 ≤ m - 1 by omega) (by omega) g1 gb s.1 s.2
    have e2 := raised_ok h (show 2 ≤ m - 1 by omega) (by omega) g1 gb s.1 s.2
    have e3 := scale_ok h2 (show 1 ≤ m by omega) m6 s2
    rw [hf]
    generalize powS p (m - 1).toNat g = q at *
    obtain ⟨a, b⟩ := p
    obtain ⟨c, d⟩ := q
    clear s s2
    simp only [spD] at e1 e2 e3 ⊢
    simp only at w1 w2 w3 w4
    refine ⟨?_, ?_⟩
    · simp (disch := decide) only [f_rise, m_rise, x_seq, x_seq1, x_seq2, x_seq3, x_seq4, x_seq5, x_seq6, x_nil, x_if, x_if1, x_if2, x_if3, x_ret, x_ret1, x_ret2, x_ret3, x_retN, x_asg, x_asg1, x_asg2, x_asg3, x_asg4, x_asg5, x_gN, x_drop, x_drop1, x_drop2, x_bk, x_ct, x_raise, x_tZ, x_tZ1, x_tZ2, x_tE, x_tE1, x_tE2, x_tE3, x_tAnd, x_tAnd1, x_tAnd2, x_tAnd3, x_tOr, x_tOr1, x_tOr2, x_tOr3, x_tNot, x_tNot1, x_tNot2, x_tNot3, x_tTrue, x_z2, x_z21, x_z1, x_z11, x_zC, x_zC1, x_za, x_za1, x_za0, x_zV, x_zK, x_ch, x_ch1, x_ch2, x_eZ, x_eZ1, x_eZ2, x_eV, x_eV1, x_eM, x_eM1, x_b1, x_b2, x_b3, x_s1, x_s2, x_s3, x_oO, x_oO2, x_e2, x_e1, x_eC, x_aN, x_aC, x_tup, x_lst, x_call, x_oC1, x_oC2, x_call0, x_call01, x_eAnd, x_eAnd1, x_eOr, x_eOr1, x_eNot, x_eNot1, x_eIf, x_eIf1, x_fz_int, x_fr_int, x_fz_bl, x_fr_bl, x_fz_str, x_fr_str, x_fz_ty, x_fr_ty, x_fz_tup, x_fr_tup, x_fz_cst, x_fr_cst, x_fz_lst_false, x_fr_lst_false, x_fz_non, x_fr_non, x_fz_lt, x_fr_lt, x_fL0, x_fL1, x_cF, x_cR1, x_cR2, x_cR3, x_iL, x_iL1, x_iT, x_iT1, x_iS, x_iS1, x_iR1, x_iR11, x_iR2, x_iR21, x_iE, x_iE1, x_iV, x_iV1, x_iZ, x_iZ1, x_for, x_fo0, x_fo1, x_fo2, x_fo3, x_fo4, x_fo5, x_fo6, x_fo7, x_gT, x_gC, x_gC0, x_try, x_try1, x_try2, x_try3, x_try4, x_try5, x_nx1, x_nx2, x_try6, x_try7, x_nx3, x_nx4, x_app, x_app1, x_app2, x_lc, x_lcE, x_lc0, x_lc1, x_lcG, x_w0, x_w1, vMinL4, vMaxL4, vAll3, vAny3, vAll4, vAny4, x_wh1, x_wh2, x_wh0, x_abs, vI_ii, vI_ib, vI_it, vI_il, vI_is, vI_bb, vI_bi, vI_tt, vI_tl, vI_ti, vI_ll, vI_lt, vI_ss, vEqB, vNeB, x_ta, x_ta1, x_ta2, x_ta3, x_ta4, x_ta5, x_is, nc_0, nc_1, nc_2, nc_3, nc_4, nc_5, nc_6, nc_7, nc_8, nc_9, nc_10, nc_11, vMax2, vMin2, vIsN0, vIsN1, vNotN0, vNotN1, vIsN2, vNotN2, x_lo, x_lo1, x_lo2, vAll2, vAny2, x_sl, x_sl1, x_sl2, x_pn, x_ps, x_ps1, x_cutL, x_cutC, vEqS, vNeS, x_fz_obj, x_fr_obj, x_make, x_meth, x_meth2, x_meth3, x_isO, x_isO1, x_cat, x_cat1, x_methZ, x_methZ2, x_methZ3, x_callZ, x_callZ1, x_lend1, x_lend2, x_cl_int, x_cl_bl, x_cl_str, x_cl_non, x_cl_tup, x_cl0, x_cl1, x_cl_lst, x_setIx, x_setIx1, x_setIx2, x_callI, x_callI1, x_callI2, x_callI3, x_take0, x_take1, x_take2, x_put0, x_put1, x_cFI, x_cRI1, x_cRI2, x_outR, x_outR1, x_out1, x_out2, x_par, x_par1, x_sort, x_sort1, x_sort2, x_io2, x_io4, vIsB, x_pop, x_lr, x_lr1, x_clr, x_clr1, x_clrE, x_clrE1, x_pop1, x_pop2, x_ins, x_ins1, x_ins2, List.all_cons, List.all_nil, Option.isSome_some, Option.map_some, List.getD_cons_zero, List.getD_cons_succ, List.set_cons_zero, List.set_cons_succ, List.map_cons, List.map_nil, List.replicate_zero, List.replicate_succ, List.length_cons, List.length_nil, List.cons_append, List.nil_append, Option.bind_some, if_true, if_false, Bool.false_eq_true, Nat.reduceSub, Nat.reduceAdd, Nat.reduceLeDiff, Nat.reduceLT, vAdd, vSub, vLt, vLe, vGt, vGe, vNeg, vEq, vNe, vEq2, vNe2, vMod, vDiv, vMul, vPow, Int.reduceToNat, vIx0, vIx1, vLenT, vLenC, vLenL, reduceIte, decide_true, decide_false, Bool.not_true, Bool.not_false, beq_self_eq_true, Bool.and_true, Bool.true_and, Bool.and_self, Bool.and_false, Bool.false_and, hq, e1, e3]
    · simp (disch := decide) only [f__law_factor, m__law_factor, x_seq, x_seq1, x_seq2, x_seq3, x_seq4, x_seq5, x_seq6, x_nil, x_if, x_if1, x_if2, x_if3, x_ret, x_ret1, x_ret2, x_ret3, x_retN, x_asg, x_asg1, x_asg2, x_asg3, x_asg4, x_asg5, x_gN, x_drop, x_drop1, x_drop2, x_bk, x_ct, x_raise, x_tZ, x_tZ1, x_tZ2, x_tE, x_tE1, x_tE2, x_tE3, x_tAnd, x_tAnd1, x_tAnd2, x_tAnd3, x_tOr, x_tOr1, x_tOr2, x_tOr3, x_tNot, x_tNot1, x_tNot2, x_tNot3, x_tTrue, x_z2, x_z21, x_z1, x_z11, x_zC, x_zC1, x_za, x_za1, x_za0, x_zV, x_zK, x_ch, x_ch1, x_ch2, x_eZ, x_eZ1, x_eZ2, x_eV, x_eV1, x_eM, x_eM1, x_b1, x_b2, x_b3, x_s1, x_s2, x_s3, x_oO, x_oO2, x_e2, x_e1, x_eC, x_aN, x_aC, x_tup, x_lst, x_call, x_oC1, x_oC2, x_call0, x_call01, x_eAnd, x_eAnd1, x_eOr, x_eOr1, x_eNot, x_eNot1, x_eIf, x_eIf1, x_fz_int, x_fr_int, x_fz_bl, x_fr_bl, x_fz_str, x_fr_str, x_fz_ty, x_fr_ty, x_fz_tup, x_fr_tup, x_fz_cst, x_fr_cst, x_fz_lst_false, x_fr_lst_false, x_fz_non, x_fr_non, x_fz_lt, x_fr_lt, x_fL0, x_fL1, x_cF, x_cR1, x_cR2, x_cR3, x_iL, x_iL1, x_iT, x_iT1, x_iS, x_iS1, x_iR1, x_iR11, x_iR2, x_iR21, x_iE, x_iE1, x_iV, x_iV1, x_iZ, x_iZ1, x_for, x_fo0, x_fo1, x_fo2, x_fo3, x_fo4, x_fo5, x_fo6, x_fo7, x_gT, x_gC, x_gC0, x_try, x_try1, x_try2, x_try3, x_try4, x_try5, x_nx1, x_nx2, x_try6, x_try7, x_nx3, x_nx4, x_app, x_app1, x_app2, x_lc, x_lcE, x_lc0, x_lc1, x_lcG, x_w0, x_w1, vMinL4, vMaxL4, vAll3, vAny3, vAll4, vAny4, x_wh1, x_wh2, x_wh0, x_abs, vI_ii, vI_ib, vI_it, vI_il, vI_is, vI_bb, vI_bi, vI_tt, vI_tl, vI_ti, vI_ll, vI_lt, vI_ss, vEqB, vNeB, x_ta, x_ta1, x_ta2, x_ta3, x_ta4, x_ta5, x_is, nc_0, nc_1, nc_2, nc_3, nc_4, nc_5, nc_6, nc_7, nc_8, nc_9, nc_10, nc_11, vMax2, vMin2, vIsN0, vIsN1, vNotN0, vNotN1, vIsN2, vNotN2, x_lo, x_lo1, x_lo2, vAll2, vAny2, x_sl, x_sl1, x_sl2, x_pn, x_ps, x_ps1, x_cutL, x_cutC, vEqS, vNeS, x_fz_obj, x_fr_obj, x_make, x_meth, x_meth2, x_meth3, x_isO, x_isO1, x_cat, x_cat1, x_methZ, x_methZ2, x_methZ3, x_callZ, x_callZ1, x_lend1, x_lend2, x_cl_int, x_cl_bl, x_cl_str, x_cl_non, x_cl_tup, x_cl0, x_cl1, x_cl_lst, x_setIx, x_setIx1, x_setIx2, x_callI, x_callI1, x_callI2, x_callI3, x_take0, x_take1, x_take2, x_put0, x_put1, x_cFI, x_cRI1, x_cRI2, x_outR, x_outR1, x_out1, x_out2, x_par, x_par1, x_sort, x_sort1, x_sort2, x_io2, x_io4, vIsB, x_pop, x_lr, x_lr1, x_clr, x_clr1, x_clrE, x_clrE1, x_pop1, x_pop2, x_ins, x_ins1, x_ins2, List.all_cons, List.all_nil, Option.isSome_some, Option.map_some, List.getD_cons_zero, List.getD_cons_succ, List.set_cons_zero, List.set_cons_succ, List.map_cons, List.map_nil, List.replicate_zero, List.replicate_succ, List.length_cons, List.length_nil, List.cons_append, List.nil_append, Option.bind_some, if_true, if_false, Bool.false_eq_true, Nat.reduceSub, Nat.reduceAdd, Nat.reduceLeDiff, Nat.reduceLT, vAdd, vSub, vLt, vLe, vGt, vGe, vNeg, vEq, vNe, vEq2, vNe2, vMod, vDiv, vMul, vPow, Int.reduceToNat, vIx0, vIx1, vLenT, vLenC, vLenL, reduceIte, decide_true, decide_false, Bool.not_true, Bool.not_false, beq_self_eq_true, Bool.and_true, Bool.true_and, Bool.and_self, Bool.and_false, Bool.false_and, hm, e2, vMul w3, vMul w4]
  | false =>
    have hm' := of_decide_eq_false hm
    have e : m = 2 := by omega
    subst e
    have e3 := scale_ok h (show (1 : Int) ≤ 2 by decide) (by decide) s
    have hf : facS p 2 g = (p.1 * 2, p.2 * 2) := if_pos rfl
    rw [hf]
    obtain ⟨a, b⟩ := p
    clear s s2
    simp only [spD] at e3 ⊢
    simp only at w1 w2
    refine ⟨?_, ?_⟩
    · simp (disch := decide) only [f_rise, m_rise, x_seq, x_seq1, x_seq2, x_seq3, x_seq4, x_seq5, x_seq6, x_nil, x_if, x_if1, x_if2, x_if3, x_ret, x_ret1, x_ret2, x_ret3, x_retN, x_asg, x_asg1, x_asg2, x_asg3, x_asg4, x_asg5, x_gN, x_drop, x_drop1, x_drop2, x_bk, x_ct, x_raise, x_tZ, x_tZ1, x_tZ2, x_tE, x_tE1, x_tE2, x_tE3, x_tAnd, x_tAnd1, x_tAnd2, x_tAnd3, x_tOr, x_tOr1, x_tOr2, x_tOr3, x_tNot, x_tNot1, x_tNot2, x_tNot3, x_tTrue, x_z2, x_z21, x_z1, x_z11, x_zC, x_zC1, x_za, x_za1, x_za0, x_zV, x_zK, x_ch, x_ch1, x_ch2, x_eZ, x_eZ1, x_eZ2, x_eV, x_eV1, x_eM, x_eM1, x_b1, x_b2, x_b3, x_s1, x_s2, x_s3, x_oO, x_oO2, x_e2, x_e1, x_eC, x_aN, x_aC, x_tup, x_lst, x_call, x_oC1, x_oC2, x_call0, x_call01, x_eAnd, x_eAnd1, x_eOr, x_eOr1, x_eNot, x_eNot1, x_eIf, x_eIf1, x_fz_int, x_fr_int, x_fz_bl, x_fr_bl, x_fz_str, x_fr_str, x_fz_ty, x_fr_ty, x_fz_tup, x_fr_tup, x_fz_cst, x_fr_cst, x_fz_lst_false, x_fr_lst_false, x_fz_non, x_fr_non, x_fz_lt, x_fr_lt, x_fL0, x_fL1, x_cF, x_cR1, x_cR2, x_cR3, x_iL, x_iL1, x_iT, x_iT1, x_iS, x_iS1, x_iR1, x_iR11, x_iR2, x_iR21, x_iE, x_iE1, x_iV, x_iV1, x_iZ, x_iZ1, x_for, x_fo0, x_fo1, x_fo2, x_fo3, x_fo4, x_fo5, x_fo6, x_fo7, x_gT, x_gC, x_gC0, x_try, x_try1, x_try2, x_try3, x_try4, x_try5, x_nx1, x_nx2, x_try6, x_try7, x_nx3, x_nx4, x_app, x_app1, x_app2, x_lc, x_lcE, x_lc0, x_lc1, x_lcG, x_w0, x_w1, vMinL4, vMaxL4, vAll3, vAny3, vAll4, vAny4, x_wh1, x_wh2, x_wh0, x_abs, vI_ii, vI_ib, vI_it, vI_il, vI_is, vI_bb, vI_bi, vI_tt, vI_tl, vI_ti, vI_ll, vI_lt, vI_ss, vEqB, vNeB, x_ta, x_ta1, x_ta2, x_ta3, x_ta4, x_ta5, x_is, nc_0, nc_1, nc_2, nc_3, nc_4, nc_5, nc_6, nc_7, nc_8, nc_9, nc_10, nc_11, vMax2, vMin2, vIsN0, vIsN1, vNotN0, vNotN1, vIsN2, vNotN2, x_lo, x_lo1, x_lo2, vAll2, vAny2, x_sl, x_sl1, x_sl2, x_pn, x_ps, x_ps1, x_cutL, x_cutC, vEqS, vNeS, x_fz_obj, x_fr_obj, x_make, x_meth, x_meth2, x_meth3, x_isO, x_isO1, x_cat, x_cat1, x_methZ, x_methZ2, x_methZ3, x_callZ, x_callZ1, x_lend1, x_lend2, x_cl_int, x_cl_bl, x_cl_str, x_cl_non, x_cl_tup, x_cl0, x_cl1, x_cl_lst, x_setIx, x_setIx1, x_setIx2, x_callI, x_callI1, x_callI2, x_callI3, x_take0, x_take1, x_take2, x_put0, x_put1, x_cFI, x_cRI1, x_cRI2, x_outR, x_outR1, x_out1, x_out2, x_par, x_par1, x_sort, x_sort1, x_sort2, x_io2, x_io4, vIsB, x_pop, x_lr, x_lr1, x_clr, x_clr1, x_clrE, x_clrE1, x_pop1, x_pop2, x_ins, x_ins1, x_ins2, List.all_cons, List.all_nil, Option.isSome_some, Option.map_some, List.getD_cons_zero, List.getD_cons_succ, List.set_cons_zero, List.set_cons_succ, List.map_cons, List.map_nil, List.replicate_zero, List.replicate_succ, List.length_cons, List.length_nil, List.cons_append, List.nil_append, Option.bind_some, if_true, if_false, Bool.false_eq_true, Nat.reduceSub, Nat.reduceAdd, Nat.reduceLeDiff, Nat.reduceLT, vAdd, vSub, vLt, vLe, vGt, vGe, vNeg, vEq, vNe, vEq2, vNe2, vMod, vDiv, vMul, vPow, Int.reduceToNat, vIx0, vIx1, vLenT, vLenC, vLenL, reduceIte, decide_true, decide_false, Bool.not_true, Bool.not_false, beq_self_eq_true, Bool.and_true, Bool.true_and, Bool.and_self, Bool.and_false, Bool.false_and, e3]
    · simp (disch := decide) only [f__law_factor, m__law_factor, x_seq, x_seq1, x_seq2, x_seq3, x_seq4, x_seq5, x_seq6, x_nil, x_if, x_if1, x_if2, x_if3, x_ret, x_ret1, x_ret2, x_ret3, x_retN, x_asg, x_asg1, x_asg2, x_asg3, x_asg4, x_asg5, x_gN, x_drop, x_drop1, x_drop2, x_bk, x_ct, x_raise, x_tZ, x_tZ1, x_tZ2, x_tE, x_tE1, x_tE2, x_tE3, x_tAnd, x_tAnd1, x_tAnd2, x_tAnd3, x_tOr, x_tOr1, x_tOr2, x_tOr3, x_tNot, x_tNot1, x_tNot2, x_tNot3, x_tTrue, x_z2, x_z21, x_z1, x_z11, x_zC, x_zC1, x_za, x_za1, x_za0, x_zV, x_zK, x_ch, x_ch1, x_ch2, x_eZ, x_eZ1, x_eZ2, x_eV, x_eV1, x_eM, x_eM1, x_b1, x_b2, x_b3, x_s1, x_s2, x_s3, x_oO, x_oO2, x_e2, x_e1, x_eC, x_aN, x_aC, x_tup, x_lst, x_call, x_oC1, x_oC2, x_call0, x_call01, x_eAnd, x_eAnd1, x_eOr, x_eOr1, x_eNot, x_eNot1, x_eIf, x_eIf1, x_fz_int, x_fr_int, x_fz_bl, x_fr_bl, x_fz_str, x_fr_str, x_fz_ty, x_fr_ty, x_fz_tup, x_fr_tup, x_fz_cst, x_fr_cst, x_fz_lst_false, x_fr_lst_false, x_fz_non, x_fr_non, x_fz_lt, x_fr_lt, x_fL0, x_fL1, x_cF, x_cR1, x_cR2, x_cR3, x_iL, x_iL1, x_iT, x_iT1, x_iS, x_iS1, x_iR1, x_iR11, x_iR2, x_iR21, x_iE, x_iE1, x_iV, x_iV1, x_iZ, x_iZ1, x_for, x_fo0, x_fo1, x_fo2, x_fo3, x_fo4, x_fo5, x_fo6, x_fo7, x_gT, x_gC, x_gC0, x_try, x_try1, x_try2, x_try3, x_try4, x_try5, x_nx1, x_nx2, x_try6, x_try7, x_nx3, x_nx4, x_app, x_app1, x_app2, x_lc, x_lcE, x_lc0, x_lc1, x_lcG, x_w0, x_w1, vMinL4, vMaxL4, vAll3, vAny3, vAll4, vAny4, x_wh1, x_wh2, x_wh0, x_abs, vI_ii, vI_ib, vI_it, vI_il, vI_is, vI_bb, vI_bi, vI_tt, vI_tl, vI_ti, vI_ll, vI_lt, vI_ss, vEqB, vNeB, x_ta, x_ta1, x_ta2, x_ta3, x_ta4, x_ta5, x_is, nc_0, nc_1, nc_2, nc_3, nc_4, nc_5, nc_6, nc_7, nc_8, nc_9, nc_10, nc_11, vMax2, vMin2, vIsN0, vIsN1, vNotN0, vNotN1, vIsN2, vNotN2, x_lo, x_lo1, x_lo2, vAll2, vAny2, x_sl, x_sl1, x_sl2, x_pn, x_ps, x_ps1, x_cutL, x_cutC, vEqS, vNeS, x_fz_obj, x_fr_obj, x_make, x_meth, x_meth2, x_meth3, x_isO, x_isO1, x_cat, x_cat1, x_methZ, x_methZ2, x_methZ3, x_callZ, x_callZ1, x_lend1, x_lend2, x_cl_int, x_cl_bl, x_cl_str, x_cl_non, x_cl_tup, x_cl0, x_cl1, x_cl_lst, x_setIx, x_setIx1, x_setIx2, x_callI, x_callI1, x_callI2, x_callI3, x_take0, x_take1, x_take2, x_put0, x_put1, x_cFI, x_cRI1, x_cRI2, x_outR, x_outR1, x_out1, x_out2, x_par, x_par1, x_sort, x_sort1, x_sort2, x_io2, x_io4, vIsB, x_pop, x_lr, x_lr1, x_clr, x_clr1, x_clrE, x_clrE1, x_pop1, x_pop2, x_ins, x_ins1, x_ins2, List.all_cons, List.all_nil, Option.isSome_some, Option.map_some, List.getD_cons_zero, List.getD_cons_succ, List.set_cons_zero, List.set_cons_succ, List.map_cons, List.map_nil, List.replicate_zero, List.replicate_succ, List.length_cons, List.length_nil, List.cons_append, List.nil_append, Option.bind_some, if_true, if_false, Bool.false_eq_true, Nat.reduceSub, Nat.reduceAdd, Nat.reduceLeDiff, Nat.reduceLT, vAdd, vSub, vLt, vLe, vGt, vGe, vNeg, vEq, vNe, vEq2, vNe2, vMod, vDiv, vMul, vPow, Int.reduceToNat, vIx0, vIx1, vLenT, vLenC, vLenL, reduceIte, decide_true, decide_false, Bool.not_true, Bool.not_false, beq_self_eq_true, Bool.and_true, Bool.true_and, Bool.and_self, Bool.and_false, Bool.false_and, hm, vMul w1, vMul w2]
theorem powS_le {p : Int × Int} (ab : p.1 ≤ p.2) {n : Nat} (nz : n ≠ 0) {g : Int} (g1 : 1 ≤ g) : (powS p n g).1 ≤ (powS p n g).2 := fl_ce (lowP_le ab nz) (Int.pow_pos (by omega))
theorem mulS_le (p q : Int × Int) {g : Int} (g1 : 1 ≤ g) : (mulS p q g).1 ≤ (mulS p q g).2 := fl_ce (Int.le_trans (minI_le _ _).1 (maxI_le _ _).1) (by omega)
theorem facS_le {p : Int × Int} (h : p.1 ≤ p.2) {m g : Int} (m2 : 2 ≤ m) (g1 : 1 ≤ g) : (facS p m g).1 ≤ (facS p m g).2 := by
  unfold facS
  split
  · show p.1 * 2 ≤ p.2 * 2; omega
  · exact Int.mul_le_mul_of_nonneg_right (powS_le h (by omega) g1) (by omega)
theorem mul6 {W : Nat} {x m : Int} (hx : x.natAbs < 2 ^ W) (m2 : 2 ≤ m) (m6 : m ≤ 6) : (x * m).natAbs < 2 ^ (W + 3) := by
  refine Nat.lt_of_lt_of_le (mul_size hx (B := 3) (by omega)) (Nat.le_refl _)
theorem facS_sz {p : Int × Int} {W : Nat} (s : Sz W p) {m g : Int} (m2 : 2 ≤ m) (m6 : m ≤ 6) (g1 : 1 ≤ g) : Sz (W * (m - 1).toNat + 3) (facS p m g) := by
  unfold facS
  split
  · rename_i h
    subst h
    have : W * ((2 : Int) - 1).toNat + 3 = W + 3 := by
      show W * 1 + 3 = _; omega
    rw [this]
    exact ⟨mul6 s.1 m2 m6, mul6 s.2 m2 m6⟩
  · have q := Sz.pow (n := (m - 1).toNat) (by omega) s g1
    exact ⟨mul6 q.1 m2 m6, mul6 q.2 m2 m6⟩
/-! slopes -/
def pr (made : List (List (Int × Int))) (i : Int) : List (Int × Int) := made.getD i.toNat []
def rwD (b : Bool) (r : List (Int × Int)) : D := .lst b (r.map spD)
def slW (ss : List (Int × Int)) (made : List (List (Int × Int))) (g k : Int) : Nd → Int × Int
  | .num _ _ => (0, 0)
  | .unk j => if j = k then (g, g) else (0, 0)
  | .pow i m => mulS (facS (pt ss i) m g) (pt (pr made i) k) g
  | .plus i j => addS (pt (pr made i) k) (pt (pr made j) k)
  | .minus i j => subS (pt (pr made i) k) (pt (pr made j) k)
  | .times i j => addS (mulS (pt ss i) (pt (pr made j) k) g) (mulS (pt ss j) (pt (pr made i) k) g)
def rowW (ss : List (Int × Int)) (made : List (List (Int × Int))) (g : Int) (M : Nat) (n : Nd) : List (Int × Int) := (List.range M).map fun k => slW ss made g ((k : Nat) : Int) n
/-- slopes whose sizes are told by the weights -/
structure Gs (M : Nat) (ws : List Int) (made : List (List (Int × Int))) : Prop where
  g : ∀ (k : Nat) (r : List (Int × Int)), made[k]? = some r → r.length = M ∧ ∀ p ∈ r, p.1 ≤ p.2 ∧ Sz (60 * (ws.getD k 0).toNat) p
theorem pr_get {L : List (List (Int × Int))} {i : Int} (i0 : 0 ≤ i) (i1 : i < L.length) : L[i.toNat]? = some (pr L i) := by
  have hk : i.toNat < L.length := by omega
  unfold pr
  rw [List.getD_eq_getElem?_getD, List.getElem?_eq_getElem hk]; rfl
theorem Gs.at {M : Nat} {ws : List Int} {made : List (List (Int × Int))} (h : Gs M ws made) {i k : Int} (i0 : 0 ≤ i) (i1 : i < made.length) (k0 : 0 ≤ k) (k1 : k < M) : (pt (pr made i) k).1 ≤ (pt (pr made i) k).2 ∧ Sz (60 * (ws.getD i.toNat 0).toNat) (pt (pr made i) k) ∧ (pr made i).length = M := by
  obtain ⟨h1, h2⟩ := h.g _ _ (pr_get i0 i1)
  have := h2 _ (List.mem_of_getElem? (pt_get (L := pr made i) k0 (by omega)))
  exact ⟨this.1, this.2, h1⟩
theorem Sz.add1 {A : Nat} {p q : Int × Int} (hp : Sz A p) (hq : Sz A q) : Sz (A + 1) (addS p q) := by
  obtain ⟨a, b⟩ := hp; obtain ⟨c, d⟩ := hq
  unfold Sz
  rw [Nat.pow_succ]
  show (p.1 + q.1).natAbs < _ ∧ (p.2 + q.2).natAbs < _
  generalize 2 ^ A = X at *
  omega
theorem Sz.sub1 {A : Nat} {p q : Int × Int} (hp : Sz A p) (hq : Sz A q) : Sz (A + 1) (subS p q) := by
  obtain ⟨a, b⟩ := hp; obtain ⟨c, d⟩ := hq
  unfold Sz
  rw [Nat.pow_succ]
  show (p.1 - q.2).natAbs < _ ∧ (p.2 - q.1).natAbs < _
  generalize 2 ^ A = X at *
  omega
theorem slW_good {Mi : Int} {M : Nat} {ns : List Nd} {ws : List Int} (hN : Net Mi ns ws) {ss : List (Int × Int)} {made : List (List (Int × Int))} (hs : Gv ws ss) (hsl : made.length ≤ ss.length) (hm : Gs M ws made) {n : Nd} (hn : ns[made.length]? = some n) {g k : Int} (g1 : 1 ≤ g) (g2 : g ≤ 1000000) (k0 : 0 ≤ k) (k1 : k < M) :
    (slW ss made g k n).1 ≤ (slW ss made g k n).2 ∧ Sz (60 * (wt ws n).toNat) (slW ss made g k n) := by
  obtain ⟨hB, _, w1, w2⟩ := hN.nd _ _ hn
  have hl : made.length < ns.length := (List.getElem?_eq_some_iff.mp hn).1
  have wa : ∀ {i : Int}, 0 ≤ i → i < made.length → 1 ≤ ws.getD i.toNat 0 ∧ ws.getD i.toNat 0 ≤ 16 := fun h0 h1 => hN.at h0 (by omega)
  have small : ∀ {x : Int}, x.natAbs ≤ 1000000 → x.natAbs < 2 ^ (60 * (wt ws n).toNat) := fun {x} hx => Nat.lt_of_le_of_lt hx (Nat.lt_of_lt_of_le (show 1000000 < 2 ^ 60 by decide) (Nat.pow_le_pow_right (by decide) (by omega)))
  cases n with
  | num t b => exact ⟨Int.le_refl _, small (show (0 : Int).natAbs ≤ 1000000 by decide), small (show (0 : Int).natAbs ≤ 1000000 by decide)⟩
  | unk j =>
    show (if j = k then (g, g) else ((0 : Int), (0 : Int))).1 ≤ (if j = k then (g, g) else ((0 : Int), (0 : Int))).2 ∧ Sz _ (if j = k then (g, g) else ((0 : Int), (0 : Int)))
    split
    · exact ⟨Int.le_refl _, small (show g.natAbs ≤ 1000000 by omega), small (show g.natAbs ≤ 1000000 by omega)⟩
    · exact ⟨Int.le_refl _, small (show (0 : Int).natAbs ≤ 1000000 by decide), small (show (0 : Int).natAbs ≤ 1000000 by decide)⟩
  | plus i j =>
    obtain ⟨i0, i1, j0, j1⟩ := hB
    obtain ⟨l1, s1, _⟩ := hm.at i0 i1 k0 k1
    obtain ⟨l2, s2, _⟩ := hm.at j0 j1 k0 k1
    have w1 := wa i0 i1
    have w2 := wa j0 j1
    refine ⟨by show _ + _ ≤ _ + _; omega, (Sz.add (by omega) (by omega) s1 s2).mono ?_⟩
    show _ ≤ 60 * (_ + _ : Int).toNat
    omega
  | minus i j =>
    obtain ⟨i0, i1, j0, j1⟩ := hB
    obtain ⟨l1, s1, _⟩ := hm.at i0 i1 k0 k1
    obtain ⟨l2, s2, _⟩ := hm.at j0 j1 k0 k1
    have w1 := wa i0 i1
    have w2 := wa j0 j1
    refine ⟨by show _ - _ ≤ _ - _; omega, (Sz.sub (by omega) (by omega) s1 s2).mono ?_⟩
    show _ ≤ 60 * (_ + _ : Int).toNat
    omega
  | times i j =>
    obtain ⟨i0, i1, j0, j1⟩ := hB
    obtain ⟨l1, s1, _⟩ := hm.at i0 i1 k0 k1
    obtain ⟨l2, s2, _⟩ := hm.at j0 j1 k0 k1
    obtain ⟨l3, s3⟩ := hs.at i0 (show i < (ss.length : Int) by omega)
    obtain ⟨l4, s4⟩ := hs.at j0 (show j < (ss.length : Int) by omega)
    have w1 := wa i0 i1
    have w2 := wa j0 j1
    obtain ⟨a, ha, a1⟩ : ∃ a : Nat, (ws.getD i.toNat 0).toNat = a ∧ 1 ≤ a := ⟨_, rfl, by omega⟩
    obtain ⟨b, hb, b1⟩ : ∃ b : Nat, (ws.getD j.toNat 0).toNat = b ∧ 1 ≤ b := ⟨_, rfl, by omega⟩
    have hw : (wt ws (.times i j)).toNat = a + b := by show (ws.getD i.toNat 0 + ws.getD j.toNat 0).toNat = _; omega
    rw [hw]
    rw [ha] at s1 s3
    rw [hb] at s2 s4
    have m1 := (Sz.mul s3 s2 g1).mono (B := 60 * (a + b) - 1) (by omega)
    have m2 := (Sz.mul s4 s1 g1).mono (B := 60 * (a + b) - 1) (by omega)
    have q1 := mulS_le (pt ss i) (pt (pr made j) k) g1
    have q2 := mulS_le (pt ss j) (pt (pr made i) k) g1
    refine ⟨by show _ + _ ≤ _ + _; omega, (Sz.add1 m1 m2).mono (by omega)⟩
  | pow i m =>
    obtain ⟨i0, i1, m2, m6⟩ := hB
    obtain ⟨l1, s1, _⟩ := hm.at i0 i1 k0 k1
    obtain ⟨l3, s3⟩ := hs.at i0 (show i < (ss.length : Int) by omega)
    have w1 := wa i0 i1
    obtain ⟨a, ha, a1⟩ : ∃ a : Nat, (ws.getD i.toNat 0).toNat = a ∧ 1 ≤ a := ⟨_, rfl, by omega⟩
    rw [ha] at s1 s3
    have hw : (wt ws (.pow i m)).toNat = m.toNat * a := by
      show (m * ws.getD i.toNat 0).toNat = _
      obtain ⟨q, rfl⟩ : ∃ q : Nat, m = q := ⟨m.toNat, by omega⟩
      have : ws.getD i.toNat 0 = (a : Int) := by omega
      rw [this, ← Int.natCast_mul, Int.toNat_natCast, Int.toNat_natCast]
    rw [hw]
    refine ⟨mulS_le _ _ g1, (Sz.mul (facS_sz s3 m2 m6 g1) s1 g1).mono ?_⟩
    obtain ⟨q, hq, q1⟩ : ∃ q : Nat, (m - 1).toNat = q ∧ 1 ≤ q := ⟨_, rfl, by omega⟩
    have hm : m.toNat = q + 1 := by omega
    rw [hq, hm, Nat.add_mul, Nat.one_mul]
    have e1 : (54 * a - 1) * q ≤ 54 * a * q := Nat.mul_le_mul_right q (by omega)
    have e2 : 1 * 1 ≤ a * q := Nat.mul_le_mul a1 q1
    rw [Nat.mul_assoc] at e1
    rw [Nat.mul_comm q a]
    generalize a * q = z at *
    omega
theorem ix_pr {made : List (List (Int × Int))} {i : Int} (i0 : 0 ≤ i) (i1 : i < made.length) (b : Bool) : gIx (.lst b (made.map (rwD false))) (.int i) = some (rwD false (pr made i)) := by
  obtain ⟨k, rfl⟩ : ∃ k : Nat, i = k := ⟨i.toNat, by omega⟩
  have h := pr_get (L := made) i0 i1
  rw [Int.toNat_natCast] at h
  rw [vIxL, List.getElem?_map, h]; rfl
theorem ix_row {r : List (Int × Int)} {k : Int} (k0 : 0 ≤ k) (k1 : k < r.length) (b : Bool) : gIx (rwD b r) (.int k) = some (spD (pt r k)) := ix_pt k0 k1 b
theorem range_pt {α : Type} (f : Int × Int → α) (r : List (Int × Int)) : (List.range r.length).map (fun k => f (pt r ((k : Nat) : Int))) = r.map f := by
  apply List.ext_getElem?
  intro k
  rw [List.getElem?_map, List.getElem?_map]
  by_cases h : k < r.length
  · have e := pt_get (L := r) (i := ((k : Nat) : Int)) (by omega) (by omega)
    rw [Int.toNat_natCast] at e
    rw [List.getElem?_range h, e]; rfl
  · rw [List.getElem?_eq_none (by simp; omega), List.getElem?_eq_none (by omega)]; rfl
theorem row_map (ss : List (Int × Int)) (made : List (List (Int × Int))) (g : Int) (M : Nat) (n : Nd) : (rowW ss made g M n).map spD = (List.range M).map fun k => spD (slW ss made g ((k : Nat) : Int) n) := by
  unfold rowW; rw [List.map_map]; rfl
theorem flat_ok {M : Int} {m : Nat} (hm : M.toNat = m) (M0 : 0 ≤ M) (M1 : M ≤ 1000) : f_flat [.int M] = .ok (.lst true ((List.range m).map fun _ => spD (0, 0))) := by
  have e : c_flat_1 [some (.int M), none] = .ok (.lst true ((List.range m).map fun _ => spD (0, 0))) [some (.int M), none] := lc_rng (own := [1]) (τ := [some (.int M), none]) (i := 0) (fun _ => spD (0, 0)) rfl hm M0 M1 rfl (fun k hk => by
    generalize (0 : Int) + ((k : Nat) : Int) = kk
    exact ⟨_, [some (.int M), some (.int kk)], x_gN, by simp only [x_seq, x_seq1, x_seq2, x_seq3, x_seq4, x_seq5, x_seq6, x_nil, x_if, x_if1, x_if2, x_if3, x_ret, x_ret1, x_ret2, x_ret3, x_retN, x_asg, x_asg1, x_asg2, x_asg3, x_asg4, x_asg5, x_gN, x_drop, x_drop1, x_drop2, x_bk, x_ct, x_raise, x_tZ, x_tZ1, x_tZ2, x_tE, x_tE1, x_tE2, x_tE3, x_tAnd, x_tAnd1, x_tAnd2, x_tAnd3, x_tOr, x_tOr1, x_tOr2, x_tOr3, x_tNot, x_tNot1, x_tNot2, x_tNot3, x_tTrue, x_z2, x_z21, x_z1, x_z11, x_zC, x_zC1, x_za, x_za1, x_za0, x_zV, x_zK, x_ch, x_ch1, x_ch2, x_eZ, x_eZ1, x_eZ2, x_eV, x_eV1, x_eM, x_eM1, x_b1, x_b2, x_b3, x_s1, x_s2, x_s3, x_oO, x_oO2, x_e2, x_e1, x_eC, x_aN, x_aC, x_tup, x_lst, x_call, x_oC1, x_oC2, x_call0, x_call01, x_eAnd, x_eAnd1, x_eOr, x_eOr1, x_eNot, x_eNot1, x_eIf, x_eIf1, x_fz_int, x_fr_int, x_fz_bl, x_fr_bl, x_fz_str, x_fr_str, x_fz_ty, x_fr_ty, x_fz_tup, x_fr_tup, x_fz_cst, x_fr_cst, x_fz_lst_false, x_fr_lst_false, x_fz_non, x_fr_non, x_fz_lt, x_fr_lt, x_fL0, x_fL1, x_cF, x_cR1, x_cR2, x_cR3, x_iL, x_iL1, x_iT, x_iT1, x_iS, x_iS1, x_iR1, x_iR11, x_iR2, x_iR21, x_iE, x_iE1, x_iV, x_iV1, x_iZ, x_iZ1, x_for, x_fo0, x_fo1, x_fo2, x_fo3, x_fo4, x_fo5, x_fo6, x_fo7, x_gT, x_gC, x_gC0, x_try, x_try1, x_try2, x_try3, x_try4, x_try5, x_nx1, x_nx2, x_try6, x_try7, x_nx3, x_nx4, x_app, x_app1, x_app2, x_lc, x_lcE, x_lc0, x_lc1, x_lcG, x_w0, x_w1, vMinL4, vMaxL4, vAll3, vAny3, vAll4, vAny4, x_wh1, x_wh2, x_wh0, x_abs, vI_ii, vI_ib, vI_it, vI_il, vI_is, vI_bb, vI_bi, vI_tt, vI_tl, vI_ti, vI_ll, vI_lt, vI_ss, vEqB, vNeB, x_ta, x_ta1, x_ta2, x_ta3, x_ta4, x_ta5, x_is, nc_0, nc_1, nc_2, nc_3, nc_4, nc_5, nc_6, nc_7, nc_8, nc_9, nc_10, nc_11, vMax2, vMin2, vIsN0, vIsN1, vNotN0, vNotN1, vIsN2, vNotN2, x_lo, x_lo1, x_lo2, vAll2, vAny2, x_sl, x_sl1, x_sl2, x_pn, x_ps, x_ps1, x_cutL, x_cutC, vEqS, vNeS, x_fz_obj, x_fr_obj, x_make, x_meth, x_meth2, x_meth3, x_isO, x_isO1, x_cat, x_cat1, x_methZ, x_methZ2, x_methZ3, x_callZ, x_callZ1, x_lend1, x_lend2, x_cl_int, x_cl_bl, x_cl_str, x_cl_non, x_cl_tup, x_cl0, x_cl1, x_cl_lst, x_setIx, x_setIx1, x_setIx2, x_callI, x_callI1, x_callI2, x_callI3, x_take0, x_take1, x_take2, x_put0, x_put1, x_cFI, x_cRI1, x_cRI2, x_outR, x_outR1, x_out1, x_out2, x_par, x_par1, x_sort, x_sort1, x_sort2, x_io2, x_io4, vIsB, x_pop, x_lr, x_lr1, x_clr, x_clr1, x_clrE, x_clrE1, x_pop1, x_pop2, x_ins, x_ins1, x_ins2, List.all_cons, List.all_nil, Option.isSome_some, Option.map_some, List.getD_cons_zero, List.getD_cons_succ, List.set_cons_zero, List.set_cons_succ, List.map_cons, List.map_nil, List.replicate_zero, List.replicate_succ, List.length_cons, List.length_nil, List.cons_append, List.nil_append, Option.bind_some, if_true, if_false, Bool.false_eq_true, Nat.reduceSub, Nat.reduceAdd, Nat.reduceLeDiff, Nat.reduceLT, vAdd, vSub, vLt, vLe, vGt, vGe, vNeg, vEq, vNe, vEq2, vNe2, vMod, vDiv, vMul, vPow, Int.reduceToNat, vIx0, vIx1, vLenT, vLenC, vLenL, reduceIte, decide_true, decide_false, Bool.not_true, Bool.not_false, beq_self_eq_true, Bool.and_true, Bool.true_and, Bool.and_self, Bool.and_false, Bool.false_and, spD], rfl⟩)
  generalize (List.range m).map (fun _ => spD (0, 0)) = L at *
  simp only [f_flat, m_flat, x_seq, x_seq1, x_seq2, x_seq3, x_seq4, x_seq5, x_seq6, x_nil, x_if, x_if1, x_if2, x_if3, x_ret, x_ret1, x_ret2, x_ret3, x_retN, x_asg, x_asg1, x_asg2, x_asg3, x_asg4, x_asg5, x_gN, x_drop, x_drop1, x_drop2, x_bk, x_ct, x_raise, x_tZ, x_tZ1, x_tZ2, x_tE, x_tE1, x_tE2, x_tE3, x_tAnd, x_tAnd1, x_tAnd2, x_tAnd3, x_tOr, x_tOr1, x_tOr2, x_tOr3, x_tNot, x_tNot1, x_tNot2, x_tNot3, x_tTrue, x_z2, x_z21, x_z1, x_z11, x_zC, x_zC1, x_za, x_za1, x_za0, x_zV, x_zK, x_ch, x_ch1, x_ch2, x_eZ, x_eZ1, x_eZ2, x_eV, x_eV1, x_eM, x_eM1, x_b1, x_b2, x_b3, x_s1, x_s2, x_s3, x_oO, x_oO2, x_e2, x_e1, x_eC, x_aN, x_aC, x_tup, x_lst, x_call, x_oC1, x_oC2, x_call0, x_call01, x_eAnd, x_eAnd1, x_eOr, x_eOr1, x_eNot, x_eNot1, x_eIf, x_eIf1, x_fz_int, x_fr_int, x_fz_bl, x_fr_bl, x_fz_str, x_fr_str, x_fz_ty, x_fr_ty, x_fz_tup, x_fr_tup, x_fz_cst, x_fr_cst, x_fz_lst_false, x_fr_lst_false, x_fz_non, x_fr_non, x_fz_lt, x_fr_lt, x_fL0, x_fL1, x_cF, x_cR1, x_cR2, x_cR3, x_iL, x_iL1, x_iT, x_iT1, x_iS, x_iS1, x_iR1, x_iR11, x_iR2, x_iR21, x_iE, x_iE1, x_iV, x_iV1, x_iZ, x_iZ1, x_for, x_fo0, x_fo1, x_fo2, x_fo3, x_fo4, x_fo5, x_fo6, x_fo7, x_gT, x_gC, x_gC0, x_try, x_try1, x_try2, x_try3, x_try4, x_try5, x_nx1, x_nx2, x_try6, x_try7, x_nx3, x_nx4, x_app, x_app1, x_app2, x_lc, x_lcE, x_lc0, x_lc1, x_lcG, x_w0, x_w1, vMinL4, vMaxL4, vAll3, vAny3, vAll4, vAny4, x_wh1, x_wh2, x_wh0, x_abs, vI_ii, vI_ib, vI_it, vI_il, vI_is, vI_bb, vI_bi, vI_tt, vI_tl, vI_ti, vI_ll, vI_lt, vI_ss, vEqB, vNeB, x_ta, x_ta1, x_ta2, x_ta3, x_ta4, x_ta5, x_is, nc_0, nc_1, nc_2, nc_3, nc_4, nc_5, nc_6, nc_7, nc_8, nc_9, nc_10, nc_11, vMax2, vMin2, vIsN0, vIsN1, vNotN0, vNotN1, vIsN2, vNotN2, x_lo, x_lo1, x_lo2, vAll2, vAny2, x_sl, x_sl1, x_sl2, x_pn, x_ps, x_ps1, x_cutL, x_cutC, vEqS, vNeS, x_fz_obj, x_fr_obj, x_make, x_meth, x_meth2, x_meth3, x_isO, x_isO1, x_cat, x_cat1, x_methZ, x_methZ2, x_methZ3, x_callZ, x_callZ1, x_lend1, x_lend2, x_cl_int, x_cl_bl, x_cl_str, x_cl_non, x_cl_tup, x_cl0, x_cl1, x_cl_lst, x_setIx, x_setIx1, x_setIx2, x_callI, x_callI1, x_callI2, x_callI3, x_take0, x_take1, x_take2, x_put0, x_put1, x_cFI, x_cRI1, x_cRI2, x_outR, x_outR1, x_out1, x_out2, x_par, x_par1, x_sort, x_sort1, x_sort2, x_io2, x_io4, vIsB, x_pop, x_lr, x_lr1, x_clr, x_clr1, x_clrE, x_clrE1, x_pop1, x_pop2, x_ins, x_ins1, x_ins2, List.all_cons, List.all_nil, Option.isSome_some, Option.map_some, List.getD_cons_zero, List.getD_cons_succ, List.set_cons_zero, List.set_cons_succ, List.map_cons, List.map_nil, List.replicate_zero, List.replicate_succ, List.length_cons, List.length_nil, List.cons_append, List.nil_append, Option.bind_some, if_true, if_false, Bool.false_eq_true, Nat.reduceSub, Nat.reduceAdd, Nat.reduceLeDiff, Nat.reduceLT, vAdd, vSub, vLt, vLe, vGt, vGe, vNeg, vEq, vNe, vEq2, vNe2, vMod, vDiv, vMul, vPow, Int.reduceToNat, vIx0, vIx1, vLenT, vLenC, vLenL, reduceIte, decide_true, decide_false, Bool.not_true, Bool.not_false, beq_self_eq_true, Bool.and_true, Bool.true_and, Bool.and_self, Bool.and_false, Bool.false_and, e]
theorem set_unk {M : Nat} {g j : Int} (j0 : 0 ≤ j) (j1 : j < M) (ss : List (Int × Int)) (made : List (List (Int × Int))) : setD ((List.range M).map fun _ => spD (0, 0)) j (.tup [.int g, .int g]) = some ((rowW ss made g M (.unk j)).map spD) := by
  obtain ⟨q, rfl⟩ : ∃ q : Nat, j = q := ⟨j.toNat, by omega⟩
  rw [vSetD (j := q) rfl (by simp; omega), row_map]
  congr 1
  apply List.ext_getElem?
  intro k
  rw [List.getElem?_set, List.getElem?_map, List.getElem?_map]
  by_cases hk : k < M
  · rw [List.getElem?_range hk]
    by_cases e : q = k
    · subst e
      rw [if_pos rfl, if_pos (by simpa using hk)]
      show _ = some (spD (if ((q : Nat) : Int) = ((q : Nat) : Int) then (g, g) else (0, 0)))
      rw [if_pos rfl]; rfl
    · rw [if_neg e]
      show some (spD (0, 0)) = some (spD (if ((q : Nat) : Int) = ((k : Nat) : Int) then (g, g) else (0, 0)))
      rw [if_neg (by omega)]
  · rw [if_neg (by omega), List.getElem?_eq_none (by simp; omega)]; rfl
theorem x_seq_rt {a c : MS} {τ τ1 : Bn.Env} {d : D} (h : a τ = .rt d τ1) : sSeq a c τ = .rt d τ1 := by
  rw [x_seq, h, x_seq2]
theorem pow_lim {k w : Int} (k2 : 2 ≤ k) (w1 : 1 ≤ w) (h : k * w ≤ 16) : (54 * w.toNat - 1) * (k - 1).toNat + 3 ≤ 1000 := by
  obtain ⟨a, rfl⟩ : ∃ a : Nat, w = a := ⟨w.toNat, by omega⟩
  obtain ⟨b, rfl⟩ : ∃ b : Nat, k = b := ⟨k.toNat, by omega⟩
  rw [← Int.natCast_mul] at h
  have h' : b * a ≤ 16 := by omega
  have e1 : (54 * a - 1) * (((b : Nat) : Int) - 1).toNat ≤ 54 * a * b := Nat.mul_le_mul (by omega) (by omega)
  rw [Nat.mul_assoc, Nat.mul_comm a b] at e1
  rw [Int.toNat_natCast]
  omega
def l_slope_of : MS := (sSeq (sAsg (eCall f_mul_spans (aCons (eZ (z2 gIx (zVar 1) (z2 gIx (zVar 0) (zC (.int 1))))) (aCons (eZ (z2 gIx (zVar 10) (zVar 11))) (aCons (eVar 4) aNil)))) (gN 12))
    (sApp 6 (eCall f_add_spans (aCons (eVar 12) (aCons (eCall f_mul_spans (aCons (eZ (z2 gIx (zVar 1) (z2 gIx (zVar 0) (zC (.int 2))))) (aCons (eZ (z2 gIx (zVar 7) (zVar 11))) (aCons (eVar 4) aNil)))) aNil)))))
theorem slopeof_ok {Mi : Int} {m : Nat} {ns : List Nd} {ws : List Int} (hN : Net Mi ns ws) (hMi : Mi.toNat = m) (M0 : 0 ≤ Mi) (M1 : Mi ≤ 100) {ss : List (Int × Int)} {made : List (List (Int × Int))} (hs : Gv ws ss) (hsl : ss.length ≤ ns.length) (hsl2 : made.length ≤ ss.length) (hm : Gs m ws made) {n : Nd} (hB : n.B made.length Mi) (hw : wt ws n ≤ 16) {g : Int} (g1 : 1 ≤ g) (g2 : g ≤ 1000000) :
    f_slope_of [n.d, .lst false (ss.map spD), .lst false (made.map (rwD false)), .int Mi, .int g] = .ok (rwD true (rowW ss made g m n)) := by
  have gb : g.natAbs < 2 ^ 60 := by omega
  have big := hs.big hN hsl
  have wa : ∀ {i : Int}, 0 ≤ i → i < made.length → 1 ≤ ws.getD i.toNat 0 ∧ ws.getD i.toNat 0 ≤ 16 := fun h0 h1 => hN.at h0 (by omega)
  have s1000 : ∀ {i k : Int}, 0 ≤ i → i < made.length → 0 ≤ k → k < m → Sz 1000 (pt (pr made i) k) := fun {i k} i0 i1 k0 k1 => by
    have := wa i0 i1
    exact (hm.at i0 i1 k0 k1).2.1.mono (by omega)
  have rl : ∀ {i : Int}, 0 ≤ i → i < made.length → (pr made i).length = m := fun i0 i1 => (hm.g _ _ (pr_get i0 i1)).1
  show _ = CR.ok (.lst true ((rowW ss made g m n).map spD))
  cases n with
  | num t b =>
    have e := flat_ok hMi M0 (by omega)
    have er : (List.range m).map (fun _ => spD (0, 0)) = (rowW ss made g m (.num t b)).map spD := (row_map ss made g m (.num t b)).symm
    rw [er] at e
    generalize ss.map spD = S at *
    generalize made.map (rwD false) = Md at *
    generalize (rowW ss made g m (.num t b)).map spD = L at *
    simp only [f_slope_of, m_slope_of, Nd.d, we_number_number, x_seq, x_seq1, x_seq2, x_seq3, x_seq4, x_seq5, x_seq6, x_nil, x_if, x_if1, x_if2, x_if3, x_ret, x_ret1, x_ret2, x_ret3, x_retN, x_asg, x_asg1, x_asg2, x_asg3, x_asg4, x_asg5, x_gN, x_drop, x_drop1, x_drop2, x_bk, x_ct, x_raise, x_tZ, x_tZ1, x_tZ2, x_tE, x_tE1, x_tE2, x_tE3, x_tAnd, x_tAnd1, x_tAnd2, x_tAnd3, x_tOr, x_tOr1, x_tOr2, x_tOr3, x_tNot, x_tNot1, x_tNot2, x_tNot3, x_tTrue, x_z2, x_z21, x_z1, x_z11, x_zC, x_zC1, x_za, x_za1, x_za0, x_zV, x_zK, x_ch, x_ch1, x_ch2, x_eZ, x_eZ1, x_eZ2, x_eV, x_eV1, x_eM, x_eM1, x_b1, x_b2, x_b3, x_s1, x_s2, x_s3, x_oO, x_oO2, x_e2, x_e1, x_eC, x_aN, x_aC, x_tup, x_lst, x_call, x_oC1, x_oC2, x_call0, x_call01, x_eAnd, x_eAnd1, x_eOr, x_eOr1, x_eNot, x_eNot1, x_eIf, x_eIf1, x_fz_int, x_fr_int, x_fz_bl, x_fr_bl, x_fz_str, x_fr_str, x_fz_ty, x_fr_ty, x_fz_tup, x_fr_tup, x_fz_cst, x_fr_cst, x_fz_lst_false, x_fr_lst_false, x_fz_non, x_fr_non, x_fz_lt, x_fr_lt, x_fL0, x_fL1, x_cF, x_cR1, x_cR2, x_cR3, x_iL, x_iL1, x_iT, x_iT1, x_iS, x_iS1, x_iR1, x_iR11, x_iR2, x_iR21, x_iE, x_iE1, x_iV, x_iV1, x_iZ, x_iZ1, x_for, x_fo0, x_fo1, x_fo2, x_fo3, x_fo4, x_fo5, x_fo6, x_fo7, x_gT, x_gC, x_gC0, x_try, x_try1, x_try2, x_try3, x_try4, x_try5, x_nx1, x_nx2, x_try6, x_try7, x_nx3, x_nx4, x_app, x_app1, x_app2, x_lc, x_lcE, x_lc0, x_lc1, x_lcG, x_w0, x_w1, vMinL4, vMaxL4, vAll3, vAny3, vAll4, vAny4, x_wh1, x_wh2, x_wh0, x_abs, vI_ii, vI_ib, vI_it, vI_il, vI_is, vI_bb, vI_bi, vI_tt, vI_tl, vI_ti, vI_ll, vI_lt, vI_ss, vEqB, vNeB, x_ta, x_ta1, x_ta2, x_ta3, x_ta4, x_ta5, x_is, nc_0, nc_1, nc_2, nc_3, nc_4, nc_5, nc_6, nc_7, nc_8, nc_9, nc_10, nc_11, vMax2, vMin2, vIsN0, vIsN1, vNotN0, vNotN1, vIsN2, vNotN2, x_lo, x_lo1, x_lo2, vAll2, vAny2, x_sl, x_sl1, x_sl2, x_pn, x_ps, x_ps1, x_cutL, x_cutC, vEqS, vNeS, x_fz_obj, x_fr_obj, x_make, x_meth, x_meth2, x_meth3, x_isO, x_isO1, x_cat, x_cat1, x_methZ, x_methZ2, x_methZ3, x_callZ, x_callZ1, x_lend1, x_lend2, x_cl_int, x_cl_bl, x_cl_str, x_cl_non, x_cl_tup, x_cl0, x_cl1, x_cl_lst, x_setIx, x_setIx1, x_setIx2, x_callI, x_callI1, x_callI2, x_callI3, x_take0, x_take1, x_take2, x_put0, x_put1, x_cFI, x_cRI1, x_cRI2, x_outR, x_outR1, x_out1, x_out2, x_par, x_par1, x_sort, x_sort1, x_sort2, x_io2, x_io4, vIsB, x_pop, x_lr, x_lr1, x_clr, x_clr1, x_clrE, x_clrE1, x_pop1, x_pop2, x_ins, x_ins1, x_ins2, List.all_cons, List.all_nil, Option.isSome_some, Option.map_some, List.getD_cons_zero, List.getD_cons_succ, List.set_cons_zero, List.set_cons_succ, List.map_cons, List.map_nil, List.replicate_zero, List.replicate_succ, List.length_cons, List.length_nil, List.cons_append, List.nil_append, Option.bind_some, if_true, if_false, Bool.false_eq_true, Nat.reduceSub, Nat.reduceAdd, Nat.reduceLeDiff, Nat.reduceLT, vAdd, vSub, vLt, vLe, vGt, vGe, vNeg, vEq, vNe, vEq2, vNe2, vMod, vDiv, vMul, vPow, Int.reduceToNat, vIx0, vIx1, vLenT, vLenC, vLenL, reduceIte, decide_true, decide_false, Bool.not_true, Bool.not_false, beq_self_eq_true, Bool.and_true, Bool.true_and, Bool.and_self, Bool.and_false, Bool.false_and, e]
  | unk j =>
    obtain ⟨j0, j1⟩ := hB
    have e := flat_ok hMi M0 (by omega)
    have e2 := set_unk (M := m) (g := g) (j := j) j0 (by omega) ss made
    generalize (List.range m).map (fun _ => spD (0, 0)) = L0 at *
    generalize (rowW ss made g m (.unk j)).map spD = L at *
    generalize ss.map spD = S at *
    generalize made.map (rwD false) = Md at *
    simp only [f_slope_of, m_slope_of, Nd.d, we_unknown_number, we_unknown_unknown, x_seq, x_seq1, x_seq2, x_seq3, x_seq4, x_seq5, x_seq6, x_nil, x_if, x_if1, x_if2, x_if3, x_ret, x_ret1, x_ret2, x_ret3, x_retN, x_asg, x_asg1, x_asg2, x_asg3, x_asg4, x_asg5, x_gN, x_drop, x_drop1, x_drop2, x_bk, x_ct, x_raise, x_tZ, x_tZ1, x_tZ2, x_tE, x_tE1, x_tE2, x_tE3, x_tAnd, x_tAnd1, x_tAnd2, x_tAnd3, x_tOr, x_tOr1, x_tOr2, x_tOr3, x_tNot, x_tNot1, x_tNot2, x_tNot3, x_tTrue, x_z2, x_z21, x_z1, x_z11, x_zC, x_zC1, x_za, x_za1, x_za0, x_zV, x_zK, x_ch, x_ch1, x_ch2, x_eZ, x_eZ1, x_eZ2, x_eV, x_eV1, x_eM, x_eM1, x_b1, x_b2, x_b3, x_s1, x_s2, x_s3, x_oO, x_oO2, x_e2, x_e1, x_eC, x_aN, x_aC, x_tup, x_lst, x_call, x_oC1, x_oC2, x_call0, x_call01, x_eAnd, x_eAnd1, x_eOr, x_eOr1, x_eNot, x_eNot1, x_eIf, x_eIf1, x_fz_int, x_fr_int, x_fz_bl, x_fr_bl, x_fz_str, x_fr_str, x_fz_ty, x_fr_ty, x_fz_tup, x_fr_tup, x_fz_cst, x_fr_cst, x_fz_lst_false, x_fr_lst_false, x_fz_non, x_fr_non, x_fz_lt, x_fr_lt, x_fL0, x_fL1, x_cF, x_cR1, x_cR2, x_cR3, x_iL, x_iL1, x_iT, x_iT1, x_iS, x_iS1, x_iR1, x_iR11, x_iR2, x_iR21, x_iE, x_iE1, x_iV, x_iV1, x_iZ, x_iZ1, x_for, x_fo0, x_fo1, x_fo2, x_fo3, x_fo4, x_fo5, x_fo6, x_fo7, x_gT, x_gC, x_gC0, x_try, x_try1, x_try2, x_try3, x_try4, x_try5, x_nx1, x_nx2, x_try6, x_try7, x_nx3, x_nx4, x_app, x_app1, x_app2, x_lc, x_lcE, x_lc0, x_lc1, x_lcG, x_w0, x_w1, vMinL4, vMaxL4, vAll3, vAny3, vAll4, vAny4, x_wh1, x_wh2, x_wh0, x_abs, vI_ii, vI_ib, vI_it, vI_il, vI_is, vI_bb, vI_bi, vI_tt, vI_tl, vI_ti, vI_ll, vI_lt, vI_ss, vEqB, vNeB, x_ta, x_ta1, x_ta2, x_ta3, x_ta4, x_ta5, x_is, nc_0, nc_1, nc_2, nc_3, nc_4, nc_5, nc_6, nc_7, nc_8, nc_9, nc_10, nc_11, vMax2, vMin2, vIsN0, vIsN1, vNotN0, vNotN1, vIsN2, vNotN2, x_lo, x_lo1, x_lo2, vAll2, vAny2, x_sl, x_sl1, x_sl2, x_pn, x_ps, x_ps1, x_cutL, x_cutC, vEqS, vNeS, x_fz_obj, x_fr_obj, x_make, x_meth, x_meth2, x_meth3, x_isO, x_isO1, x_cat, x_cat1, x_methZ, x_methZ2, x_methZ3, x_callZ, x_callZ1, x_lend1, x_lend2, x_cl_int, x_cl_bl, x_cl_str, x_cl_non, x_cl_tup, x_cl0, x_cl1, x_cl_lst, x_setIx, x_setIx1, x_setIx2, x_callI, x_callI1, x_callI2, x_callI3, x_take0, x_take1, x_take2, x_put0, x_put1, x_cFI, x_cRI1, x_cRI2, x_outR, x_outR1, x_out1, x_out2, x_par, x_par1, x_sort, x_sort1, x_sort2, x_io2, x_io4, vIsB, x_pop, x_lr, x_lr1, x_clr, x_clr1, x_clrE, x_clrE1, x_pop1, x_pop2, x_ins, x_ins1, x_ins2, List.all_cons, List.all_nil, Option.isSome_some, Option.map_some, List.getD_cons_zero, List.getD_cons_succ, List.set_cons_zero, List.set_cons_succ, List.map_cons, List.map_nil, List.replicate_zero, List.replicate_succ, List.length_cons, List.length_nil, List.cons_append, List.nil_append, Option.bind_some, if_true, if_false, Bool.false_eq_true, Nat.reduceSub, Nat.reduceAdd, Nat.reduceLeDiff, Nat.reduceLT, vAdd, vSub, vLt, vLe, vGt, vGe, vNeg, vEq, vNe, vEq2, vNe2, vMod, vDiv, vMul, vPow, Int.reduceToNat, vIx0, vIx1, vLenT, vLenC, vLenL, reduceIte, decide_true, decide_false, Bool.not_true, Bool.not_false, beq_self_eq_true, Bool.and_true, Bool.true_and, Bool.and_self, Bool.and_false, Bool.false_and, e, e2]
  | pow i k =>
    obtain ⟨i0, i1, k2, k6⟩ := hB
    obtain ⟨l, b1, b2⟩ := big i i0 (by omega)
    have w := wa i0 i1
    obtain ⟨_, z3⟩ := hs.at i0 (show i < (ss.length : Int) by omega)
    have lim : (54 * (ws.getD i.toNat 0).toNat - 1) * (k - 1).toNat + 3 ≤ 1000 := pow_lim k2 w.1 hw
    have pz : Sz 1000 (powS (pt ss i) (k - 1).toNat g) := by
      exact (Sz.pow (by omega) z3 g1).mono (by omega)
    have er := (rise_ok l k2 k6 g1 gb ⟨b1, b2⟩ pz (powS_le l (by omega) g1)).1
    have fz : Sz 1000 (facS (pt ss i) k g) := (facS_sz z3 k2 k6 g1).mono (by omega)
    have hr := rl i0 i1
    have ec : ∀ (S Md : List D) (n0 : D), c_slope_of_1 [some n0, some (.lst false S), some (.lst false Md), some (.int Mi), some (.int g), some (.str "power"), none, some (.lst false ((pr made i).map spD)), some (spD (facS (pt ss i) k g)), none, none, none, none] = .ok (.lst true ((pr made i).map fun p => spD (mulS (facS (pt ss i) k g) p g))) [some n0, some (.lst false S), some (.lst false Md), some (.int Mi), some (.int g), some (.str "power"), none, some (.lst false ((pr made i).map spD)), some (spD (facS (pt ss i) k g)), none, none, none, none] := fun S Md n0 => by
      refine lc_lst (own := [9]) (τ := [some n0, some (.lst false S), some (.lst false Md), some (.int Mi), some (.int g), some (.str "power"), none, some (.lst false ((pr made i).map spD)), some (spD (facS (pt ss i) k g)), none, none, none, none]) (i := 7) (f := spD) (fun p => spD (mulS (facS (pt ss i) k g) p g)) rfl (by omega) rfl (fun p hp => ?_)
      obtain ⟨q, hq⟩ := List.mem_iff_getElem?.mp hp
      have hql := (List.getElem?_eq_some_iff.mp hq).1
      have hpt : pt (pr made i) ((q : Nat) : Int) = p := by
        unfold pt; rw [Int.toNat_natCast, List.getD_eq_getElem?_getD, hq]; rfl
      have em := mulsp_ok g1 gb fz (hpt ▸ s1000 i0 i1 (show (0 : Int) ≤ ((q : Nat) : Int) by omega) (by omega))
      refine ⟨_, [some n0, some (.lst false S), some (.lst false Md), some (.int Mi), some (.int g), some (.str "power"), none, some (.lst false ((pr made i).map spD)), some (spD (facS (pt ss i) k g)), some (spD p), none, none, none], x_gN, ?_, rfl⟩
      have f1 : ∀ p, isFz (spD p) = true := fun _ => rfl
      have f2 : ∀ p, freeze (spD p) = spD p := fun _ => rfl
      have y1 := f1 p; have y2 := f2 p; have y3 := f1 (facS (pt ss i) k g); have y4 := f2 (facS (pt ss i) k g)
      generalize spD p = P at *
      generalize spD (facS (pt ss i) k g) = Q at *
      generalize spD (mulS (facS (pt ss i) k g) p g) = R0 at *
      generalize (pr made i).map spD = RR at *
      simp only [x_seq, x_seq1, x_seq2, x_seq3, x_seq4, x_seq5, x_seq6, x_nil, x_if, x_if1, x_if2, x_if3, x_ret, x_ret1, x_ret2, x_ret3, x_retN, x_asg, x_asg1, x_asg2, x_asg3, x_asg4, x_asg5, x_gN, x_drop, x_drop1, x_drop2, x_bk, x_ct, x_raise, x_tZ, x_tZ1, x_tZ2, x_tE, x_tE1, x_tE2, x_tE3, x_tAnd, x_tAnd1, x_tAnd2, x_tAnd3, x_tOr, x_tOr1, x_tOr2, x_tOr3, x_tNot, x_tNot1, x_tNot2, x_tNot3, x_tTrue, x_z2, x_z21, x_z1, x_z11, x_zC, x_zC1, x_za, x_za1, x_za0, x_zV, x_zK, x_ch, x_ch1, x_ch2, x_eZ, x_eZ1, x_eZ2, x_eV, x_eV1, x_eM, x_eM1, x_b1, x_b2, x_b3, x_s1, x_s2, x_s3, x_oO, x_oO2, x_e2, x_e1, x_eC, x_aN, x_aC, x_tup, x_lst, x_call, x_oC1, x_oC2, x_call0, x_call01, x_eAnd, x_eAnd1, x_eOr, x_eOr1, x_eNot, x_eNot1, x_eIf, x_eIf1, x_fz_int, x_fr_int, x_fz_bl, x_fr_bl, x_fz_str, x_fr_str, x_fz_ty, x_fr_ty, x_fz_tup, x_fr_tup, x_fz_cst, x_fr_cst, x_fz_lst_false, x_fr_lst_false, x_fz_non, x_fr_non, x_fz_lt, x_fr_lt, x_fL0, x_fL1, x_cF, x_cR1, x_cR2, x_cR3, x_iL, x_iL1, x_iT, x_iT1, x_iS, x_iS1, x_iR1, x_iR11, x_iR2, x_iR21, x_iE, x_iE1, x_iV, x_iV1, x_iZ, x_iZ1, x_for, x_fo0, x_fo1, x_fo2, x_fo3, x_fo4, x_fo5, x_fo6, x_fo7, x_gT, x_gC, x_gC0, x_try, x_try1, x_try2, x_try3, x_try4, x_try5, x_nx1, x_nx2, x_try6, x_try7, x_nx3, x_nx4, x_app, x_app1, x_app2, x_lc, x_lcE, x_lc0, x_lc1, x_lcG, x_w0, x_w1, vMinL4, vMaxL4, vAll3, vAny3, vAll4, vAny4, x_wh1, x_wh2, x_wh0, x_abs, vI_ii, vI_ib, vI_it, vI_il, vI_is, vI_bb, vI_bi, vI_tt, vI_tl, vI_ti, vI_ll, vI_lt, vI_ss, vEqB, vNeB, x_ta, x_ta1, x_ta2, x_ta3, x_ta4, x_ta5, x_is, nc_0, nc_1, nc_2, nc_3, nc_4, nc_5, nc_6, nc_7, nc_8, nc_9, nc_10, nc_11, vMax2, vMin2, vIsN0, vIsN1, vNotN0, vNotN1, vIsN2, vNotN2, x_lo, x_lo1, x_lo2, vAll2, vAny2, x_sl, x_sl1, x_sl2, x_pn, x_ps, x_ps1, x_cutL, x_cutC, vEqS, vNeS, x_fz_obj, x_fr_obj, x_make, x_meth, x_meth2, x_meth3, x_isO, x_isO1, x_cat, x_cat1, x_methZ, x_methZ2, x_methZ3, x_callZ, x_callZ1, x_lend1, x_lend2, x_cl_int, x_cl_bl, x_cl_str, x_cl_non, x_cl_tup, x_cl0, x_cl1, x_cl_lst, x_setIx, x_setIx1, x_setIx2, x_callI, x_callI1, x_callI2, x_callI3, x_take0, x_take1, x_take2, x_put0, x_put1, x_cFI, x_cRI1, x_cRI2, x_outR, x_outR1, x_out1, x_out2, x_par, x_par1, x_sort, x_sort1, x_sort2, x_io2, x_io4, vIsB, x_pop, x_lr, x_lr1, x_clr, x_clr1, x_clrE, x_clrE1, x_pop1, x_pop2, x_ins, x_ins1, x_ins2, List.all_cons, List.all_nil, Option.isSome_some, Option.map_some, List.getD_cons_zero, List.getD_cons_succ, List.set_cons_zero, List.set_cons_succ, List.map_cons, List.map_nil, List.replicate_zero, List.replicate_succ, List.length_cons, List.length_nil, List.cons_append, List.nil_append, Option.bind_some, if_true, if_false, Bool.false_eq_true, Nat.reduceSub, Nat.reduceAdd, Nat.reduceLeDiff, Nat.reduceLT, vAdd, vSub, vLt, vLe, vGt, vGe, vNeg, vEq, vNe, vEq2, vNe2, vMod, vDiv, vMul, vPow, Int.reduceToNat, vIx0, vIx1, vLenT, vLenC, vLenL, reduceIte, decide_true, decide_false, Bool.not_true, Bool.not_false, beq_self_eq_true, Bool.and_true, Bool.true_and, Bool.and_self, Bool.and_false, Bool.false_and, y1, y2, y3, y4, em]
    have eL : (rowW ss made g m (.pow i k)).map spD = (pr made i).map fun p => spD (mulS (facS (pt ss i) k g) p g) := by
      rw [row_map, ← hr, ← range_pt (fun p => spD (mulS (facS (pt ss i) k g) p g))]; rfl
    rw [eL]
    have x1 := ix_pr (made := made) i0 i1 false
    have x2 := ix_pt (ss := ss) i0 (by omega) false
    generalize (pr made i).map (fun p => spD (mulS (facS (pt ss i) k g) p g)) = L at *
    generalize ss.map spD = S at *
    generalize made.map (rwD false) = Md at *
    have ec := ec S Md
    simp only [rwD, spD] at x1 er ec x2 ⊢
    generalize List.map spD (pr made i) = RR at *
    simp only [f_slope_of, m_slope_of, Nd.d, vIxT2, we_power_number, we_power_unknown, we_power_power, x_seq, x_seq1, x_seq2, x_seq3, x_seq4, x_seq5, x_seq6, x_nil, x_if, x_if1, x_if2, x_if3, x_ret, x_ret1, x_ret2, x_ret3, x_retN, x_asg, x_asg1, x_asg2, x_asg3, x_asg4, x_asg5, x_gN, x_drop, x_drop1, x_drop2, x_bk, x_ct, x_raise, x_tZ, x_tZ1, x_tZ2, x_tE, x_tE1, x_tE2, x_tE3, x_tAnd, x_tAnd1, x_tAnd2, x_tAnd3, x_tOr, x_tOr1, x_tOr2, x_tOr3, x_tNot, x_tNot1, x_tNot2, x_tNot3, x_tTrue, x_z2, x_z21, x_z1, x_z11, x_zC, x_zC1, x_za, x_za1, x_za0, x_zV, x_zK, x_ch, x_ch1, x_ch2, x_eZ, x_eZ1, x_eZ2, x_eV, x_eV1, x_eM, x_eM1, x_b1, x_b2, x_b3, x_s1, x_s2, x_s3, x_oO, x_oO2, x_e2, x_e1, x_eC, x_aN, x_aC, x_tup, x_lst, x_call, x_oC1, x_oC2, x_call0, x_call01, x_eAnd, x_eAnd1, x_eOr, x_eOr1, x_eNot, x_eNot1, x_eIf, x_eIf1, x_fz_int, x_fr_int, x_fz_bl, x_fr_bl, x_fz_str, x_fr_str, x_fz_ty, x_fr_ty, x_fz_tup, x_fr_tup, x_fz_cst, x_fr_cst, x_fz_lst_false, x_fr_lst_false, x_fz_non, x_fr_non, x_fz_lt, x_fr_lt, x_fL0, x_fL1, x_cF, x_cR1, x_cR2, x_cR3, x_iL, x_iL1, x_iT, x_iT1, x_iS, x_iS1, x_iR1, x_iR11, x_iR2, x_iR21, x_iE, x_iE1, x_iV, x_iV1, x_iZ, x_iZ1, x_for, x_fo0, x_fo1, x_fo2, x_fo3, x_fo4, x_fo5, x_fo6, x_fo7, x_gT, x_gC, x_gC0, x_try, x_try1, x_try2, x_try3, x_try4, x_try5, x_nx1, x_nx2, x_try6, x_try7, x_nx3, x_nx4, x_app, x_app1, x_app2, x_lc, x_lcE, x_lc0, x_lc1, x_lcG, x_w0, x_w1, vMinL4, vMaxL4, vAll3, vAny3, vAll4, vAny4, x_wh1, x_wh2, x_wh0, x_abs, vI_ii, vI_ib, vI_it, vI_il, vI_is, vI_bb, vI_bi, vI_tt, vI_tl, vI_ti, vI_ll, vI_lt, vI_ss, vEqB, vNeB, x_ta, x_ta1, x_ta2, x_ta3, x_ta4, x_ta5, x_is, nc_0, nc_1, nc_2, nc_3, nc_4, nc_5, nc_6, nc_7, nc_8, nc_9, nc_10, nc_11, vMax2, vMin2, vIsN0, vIsN1, vNotN0, vNotN1, vIsN2, vNotN2, x_lo, x_lo1, x_lo2, vAll2, vAny2, x_sl, x_sl1, x_sl2, x_pn, x_ps, x_ps1, x_cutL, x_cutC, vEqS, vNeS, x_fz_obj, x_fr_obj, x_make, x_meth, x_meth2, x_meth3, x_isO, x_isO1, x_cat, x_cat1, x_methZ, x_methZ2, x_methZ3, x_callZ, x_callZ1, x_lend1, x_lend2, x_cl_int, x_cl_bl, x_cl_str, x_cl_non, x_cl_tup, x_cl0, x_cl1, x_cl_lst, x_setIx, x_setIx1, x_setIx2, x_callI, x_callI1, x_callI2, x_callI3, x_take0, x_take1, x_take2, x_put0, x_put1, x_cFI, x_cRI1, x_cRI2, x_outR, x_outR1, x_out1, x_out2, x_par, x_par1, x_sort, x_sort1, x_sort2, x_io2, x_io4, vIsB, x_pop, x_lr, x_lr1, x_clr, x_clr1, x_clrE, x_clrE1, x_pop1, x_pop2, x_ins, x_ins1, x_ins2, List.all_cons, List.all_nil, Option.isSome_some, Option.map_some, List.getD_cons_zero, List.getD_cons_succ, List.set_cons_zero, List.set_cons_succ, List.map_cons, List.map_nil, List.replicate_zero, List.replicate_succ, List.length_cons, List.length_nil, List.cons_append, List.nil_append, Option.bind_some, if_true, if_false, Bool.false_eq_true, Nat.reduceSub, Nat.reduceAdd, Nat.reduceLeDiff, Nat.reduceLT, vAdd, vSub, vLt, vLe, vGt, vGe, vNeg, vEq, vNe, vEq2, vNe2, vMod, vDiv, vMul, vPow, Int.reduceToNat, vIx0, vIx1, vLenT, vLenC, vLenL, reduceIte, decide_true, decide_false, Bool.not_true, Bool.not_false, beq_self_eq_true, Bool.and_true, Bool.true_and, Bool.and_self, Bool.and_false, Bool.false_and, x1, x2, er, ec]
  | plus i j =>
    obtain ⟨i0, i1, j0, j1⟩ := hB
    have hr1 := rl i0 i1
    have hr2 := rl j0 j1
    have eL := row_map ss made g m (.plus i j)
    have ec : ∀ (S Md : List D) (n0 : D), c_slope_of_2 [some n0, some (.lst false S), some (.lst false Md), some (.int Mi), some (.int g), some (.str "plus"), none, some (.lst false ((pr made i).map spD)), none, none, some (.lst false ((pr made j).map spD)), none, none] = .ok (.lst true ((List.range m).map fun k => spD (slW ss made g ((k : Nat) : Int) (.plus i j)))) [some n0, some (.lst false S), some (.lst false Md), some (.int Mi), some (.int g), some (.str "plus"), none, some (.lst false ((pr made i).map spD)), none, none, some (.lst false ((pr made j).map spD)), none, none] := fun S Md n0 => by
      refine lc_rng (own := [11]) (τ := [some n0, some (.lst false S), some (.lst false Md), some (.int Mi), some (.int g), some (.str "plus"), none, some (.lst false ((pr made i).map spD)), none, none, some (.lst false ((pr made j).map spD)), none, none]) (i := 3) (fun k => spD (slW ss made g ((k : Nat) : Int) (.plus i j))) rfl hMi M0 (by omega) rfl (fun k hk => ?_)
      have x1 := ix_pt (ss := pr made i) (i := ((k : Nat) : Int)) (by omega) (by omega) false
      have x2 := ix_pt (ss := pr made j) (i := ((k : Nat) : Int)) (by omega) (by omega) false
      have ea := addsp_ok (pt (pr made i) ((k : Nat) : Int)) (pt (pr made j) ((k : Nat) : Int))
      refine ⟨_, [some n0, some (.lst false S), some (.lst false Md), some (.int Mi), some (.int g), some (.str "plus"), none, some (.lst false ((pr made i).map spD)), none, none, some (.lst false ((pr made j).map spD)), some (.int (0 + ((k : Nat) : Int))), none], x_gN, ?_, rfl⟩
      show _ = R.ok (spD (addS (pt (pr made i) ((k : Nat) : Int)) (pt (pr made j) ((k : Nat) : Int)))) _
      rw [Int.zero_add]
      generalize ((k : Nat) : Int) = kk at *
      have f1 : ∀ p, isFz (spD p) = true := fun _ => rfl
      have f2 : ∀ p, freeze (spD p) = spD p := fun _ => rfl
      have y9 := f1 (pt (pr made i) kk); have y10 := f2 (pt (pr made i) kk); have y11 := f1 (pt (pr made j) kk); have y12 := f2 (pt (pr made j) kk)
      have x1 : gIx (.lst false (List.map spD (pr made i))) (.int kk) = some (spD (pt (pr made i) kk)) := x1
      have x2 : gIx (.lst false (List.map spD (pr made j))) (.int kk) = some (spD (pt (pr made j) kk)) := x2
      clear eL
      generalize spD (addS (pt (pr made i) kk) (pt (pr made j) kk)) = R0 at *
      generalize spD (pt (pr made i) kk) = P1 at *
      generalize spD (pt (pr made j) kk) = P2 at *
      generalize List.map spD (pr made i) = RR at *
      generalize List.map spD (pr made j) = RR2 at *
      simp only [x_seq, x_seq1, x_seq2, x_seq3, x_seq4, x_seq5, x_seq6, x_nil, x_if, x_if1, x_if2, x_if3, x_ret, x_ret1, x_ret2, x_ret3, x_retN, x_asg, x_asg1, x_asg2, x_asg3, x_asg4, x_asg5, x_gN, x_drop, x_drop1, x_drop2, x_bk, x_ct, x_raise, x_tZ, x_tZ1, x_tZ2, x_tE, x_tE1, x_tE2, x_tE3, x_tAnd, x_tAnd1, x_tAnd2, x_tAnd3, x_tOr, x_tOr1, x_tOr2, x_tOr3, x_tNot, x_tNot1, x_tNot2, x_tNot3, x_tTrue, x_z2, x_z21, x_z1, x_z11, x_zC, x_zC1, x_za, x_za1, x_za0, x_zV, x_zK, x_ch, x_ch1, x_ch2, x_eZ, x_eZ1, x_eZ2, x_eV, x_eV1, x_eM, x_eM1, x_b1, x_b2, x_b3, x_s1, x_s2, x_s3, x_oO, x_oO2, x_e2, x_e1, x_eC, x_aN, x_aC, x_tup, x_lst, x_call, x_oC1, x_oC2, x_call0, x_call01, x_eAnd, x_eAnd1, x_eOr, x_eOr1, x_eNot, x_eNot1, x_eIf, x_eIf1, x_fz_int, x_fr_int, x_fz_bl, x_fr_bl, x_fz_str, x_fr_str, x_fz_ty, x_fr_ty, x_fz_tup, x_fr_tup, x_fz_cst, x_fr_cst, x_fz_lst_false, x_fr_lst_false, x_fz_non, x_fr_non, x_fz_lt, x_fr_lt, x_fL0, x_fL1, x_cF, x_cR1, x_cR2, x_cR3, x_iL, x_iL1, x_iT, x_iT1, x_iS, x_iS1, x_iR1, x_iR11, x_iR2, x_iR21, x_iE, x_iE1, x_iV, x_iV1, x_iZ, x_iZ1, x_for, x_fo0, x_fo1, x_fo2, x_fo3, x_fo4, x_fo5, x_fo6, x_fo7, x_gT, x_gC, x_gC0, x_try, x_try1, x_try2, x_try3, x_try4, x_try5, x_nx1, x_nx2, x_try6, x_try7, x_nx3, x_nx4, x_app, x_app1, x_app2, x_lc, x_lcE, x_lc0, x_lc1, x_lcG, x_w0, x_w1, vMinL4, vMaxL4, vAll3, vAny3, vAll4, vAny4, x_wh1, x_wh2, x_wh0, x_abs, vI_ii, vI_ib, vI_it, vI_il, vI_is, vI_bb, vI_bi, vI_tt, vI_tl, vI_ti, vI_ll, vI_lt, vI_ss, vEqB, vNeB, x_ta, x_ta1, x_ta2, x_ta3, x_ta4, x_ta5, x_is, nc_0, nc_1, nc_2, nc_3, nc_4, nc_5, nc_6, nc_7, nc_8, nc_9, nc_10, nc_11, vMax2, vMin2, vIsN0, vIsN1, vNotN0, vNotN1, vIsN2, vNotN2, x_lo, x_lo1, x_lo2, vAll2, vAny2, x_sl, x_sl1, x_sl2, x_pn, x_ps, x_ps1, x_cutL, x_cutC, vEqS, vNeS, x_fz_obj, x_fr_obj, x_make, x_meth, x_meth2, x_meth3, x_isO, x_isO1, x_cat, x_cat1, x_methZ, x_methZ2, x_methZ3, x_callZ, x_callZ1, x_lend1, x_lend2, x_cl_int, x_cl_bl, x_cl_str, x_cl_non, x_cl_tup, x_cl0, x_cl1, x_cl_lst, x_setIx, x_setIx1, x_setIx2, x_callI, x_callI1, x_callI2, x_callI3, x_take0, x_take1, x_take2, x_put0, x_put1, x_cFI, x_cRI1, x_cRI2, x_outR, x_outR1, x_out1, x_out2, x_par, x_par1, x_sort, x_sort1, x_sort2, x_io2, x_io4, vIsB, x_pop, x_lr, x_lr1, x_clr, x_clr1, x_clrE, x_clrE1, x_pop1, x_pop2, x_ins, x_ins1, x_ins2, List.all_cons, List.all_nil, Option.isSome_some, Option.map_some, List.getD_cons_zero, List.getD_cons_succ, List.set_cons_zero, List.set_cons_succ, List.map_cons, List.map_nil, List.replicate_zero, List.replicate_succ, List.length_cons, List.length_nil, List.cons_append, List.nil_append, Option.bind_some, if_true, if_false, Bool.false_eq_true, Nat.reduceSub, Nat.reduceAdd, Nat.reduceLeDiff, Nat.reduceLT, vAdd, vSub, vLt, vLe, vGt, vGe, vNeg, vEq, vNe, vEq2, vNe2, vMod, vDiv, vMul, vPow, Int.reduceToNat, vIx0, vIx1, vLenT, vLenC, vLenL, reduceIte, decide_true, decide_false, Bool.not_true, Bool.not_false, beq_self_eq_true, Bool.and_true, Bool.true_and, Bool.and_self, Bool.and_false, Bool.false_and, x1, x2, ea, y9, y10, y11, y12]
    rw [eL]
    have x1 := ix_pr (made := made) i0 i1 false
    have x2 := ix_pr (made := made) j0 j1 false
    generalize (List.range m).map (fun k => spD (slW ss made g ((k : Nat) : Int) (.plus i j))) = L at *
    generalize ss.map spD = S at *
    generalize made.map (rwD false) = Md at *
    have ec := ec S Md
    simp only [rwD] at x1 x2 ec
    generalize List.map spD (pr made i) = RR at *
    generalize List.map spD (pr made j) = RR2 at *
    simp only [f_slope_of, m_slope_of, Nd.d, vIxT2, we_plus_number, we_plus_unknown, we_plus_power, we_plus_plus, x_seq, x_seq1, x_seq2, x_seq3, x_seq4, x_seq5, x_seq6, x_nil, x_if, x_if1, x_if2, x_if3, x_ret, x_ret1, x_ret2, x_ret3, x_retN, x_asg, x_asg1, x_asg2, x_asg3, x_asg4, x_asg5, x_gN, x_drop, x_drop1, x_drop2, x_bk, x_ct, x_raise, x_tZ, x_tZ1, x_tZ2, x_tE, x_tE1, x_tE2, x_tE3, x_tAnd, x_tAnd1, x_tAnd2, x_tAnd3, x_tOr, x_tOr1, x_tOr2, x_tOr3, x_tNot, x_tNot1, x_tNot2, x_tNot3, x_tTrue, x_z2, x_z21, x_z1, x_z11, x_zC, x_zC1, x_za, x_za1, x_za0, x_zV, x_zK, x_ch, x_ch1, x_ch2, x_eZ, x_eZ1, x_eZ2, x_eV, x_eV1, x_eM, x_eM1, x_b1, x_b2, x_b3, x_s1, x_s2, x_s3, x_oO, x_oO2, x_e2, x_e1, x_eC, x_aN, x_aC, x_tup, x_lst, x_call, x_oC1, x_oC2, x_call0, x_call01, x_eAnd, x_eAnd1, x_eOr, x_eOr1, x_eNot, x_eNot1, x_eIf, x_eIf1, x_fz_int, x_fr_int, x_fz_bl, x_fr_bl, x_fz_str, x_fr_str, x_fz_ty, x_fr_ty, x_fz_tup, x_fr_tup, x_fz_cst, x_fr_cst, x_fz_lst_false, x_fr_lst_false, x_fz_non, x_fr_non, x_fz_lt, x_fr_lt, x_fL0, x_fL1, x_cF, x_cR1, x_cR2, x_cR3, x_iL, x_iL1, x_iT, x_iT1, x_iS, x_iS1, x_iR1, x_iR11, x_iR2, x_iR21, x_iE, x_iE1, x_iV, x_iV1, x_iZ, x_iZ1, x_for, x_fo0, x_fo1, x_fo2, x_fo3, x_fo4, x_fo5, x_fo6, x_fo7, x_gT, x_gC, x_gC0, x_try, x_try1, x_try2, x_try3, x_try4, x_try5, x_nx1, x_nx2, x_try6, x_try7, x_nx3, x_nx4, x_app, x_app1, x_app2, x_lc, x_lcE, x_lc0, x_lc1, x_lcG, x_w0, x_w1, vMinL4, vMaxL4, vAll3, vAny3, vAll4, vAny4, x_wh1, x_wh2, x_wh0, x_abs, vI_ii, vI_ib, vI_it, vI_il, vI_is, vI_bb, vI_bi, vI_tt, vI_tl, vI_ti, vI_ll, vI_lt, vI_ss, vEqB, vNeB, x_ta, x_ta1, x_ta2, x_ta3, x_ta4, x_ta5, x_is, nc_0, nc_1, nc_2, nc_3, nc_4, nc_5, nc_6, nc_7, nc_8, nc_9, nc_10, nc_11, vMax2, vMin2, vIsN0, vIsN1, vNotN0, vNotN1, vIsN2, vNotN2, x_lo, x_lo1, x_lo2, vAll2, vAny2, x_sl, x_sl1, x_sl2, x_pn, x_ps, x_ps1, x_cutL, x_cutC, vEqS, vNeS, x_fz_obj, x_fr_obj, x_make, x_meth, x_meth2, x_meth3, x_isO, x_isO1, x_cat, x_cat1, x_methZ, x_methZ2, x_methZ3, x_callZ, x_callZ1, x_lend1, x_lend2, x_cl_int, x_cl_bl, x_cl_str, x_cl_non, x_cl_tup, x_cl0, x_cl1, x_cl_lst, x_setIx, x_setIx1, x_setIx2, x_callI, x_callI1, x_callI2, x_callI3, x_take0, x_take1, x_take2, x_put0, x_put1, x_cFI, x_cRI1, x_cRI2, x_outR, x_outR1, x_out1, x_out2, x_par, x_par1, x_sort, x_sort1, x_sort2, x_io2, x_io4, vIsB, x_pop, x_lr, x_lr1, x_clr, x_clr1, x_clrE, x_clrE1, x_pop1, x_pop2, x_ins, x_ins1, x_ins2, List.all_cons, List.all_nil, Option.isSome_some, Option.map_some, List.getD_cons_zero, List.getD_cons_succ, List.set_cons_zero, List.set_cons_succ, List.map_cons, List.map_nil, List.replicate_zero, List.replicate_succ, List.length_cons, List.length_nil, List.cons_append, List.nil_append, Option.bind_some, if_true, if_false, Bool.false_eq_true, Nat.reduceSub, Nat.reduceAdd, Nat.reduceLeDiff, Nat.reduceLT, vAdd, vSub, vLt, vLe, vGt, vGe, vNeg, vEq, vNe, vEq2, vNe2, vMod, vDiv, vMul, vPow, Int.reduceToNat, vIx0, vIx1, vLenT, vLenC, vLenL, reduceIte, decide_true, decide_false, Bool.not_true, Bool.not_false, beq_self_eq_true, Bool.and_true, Bool.true_and, Bool.and_self, Bool.and_false, Bool.false_and, x1, x2, ec]
  | minus i j =>
    obtain ⟨i0, i1, j0, j1⟩ := hB
    have hr1 := rl i0 i1
    have hr2 := rl j0 j1
    have eL := row_map ss made g m (.minus i j)
    have ec : ∀ (S Md : List D) (n0 : D), c_slope_of_3 [some n0, some (.lst false S), some (.lst false Md), some (.int Mi), some (.int g), some (.str "minus"), none, some (.lst false ((pr made i).map spD)), none, none, some (.lst false ((pr made j).map spD)), none, none] = .ok (.lst true ((List.range m).map fun k => spD (slW ss made g ((k : Nat) : Int) (.minus i j)))) [some n0, some (.lst false S), some (.lst false Md), some (.int Mi), some (.int g), some (.str "minus"), none, some (.lst false ((pr made i).map spD)), none, none, some (.lst false ((pr made j).map spD)), none, none] := fun S Md n0 => by
      refine lc_rng (own := [11]) (τ := [some n0, some (.lst false S), some (.lst false Md), some (.int Mi), some (.int g), some (.str "minus"), none, some (.lst false ((pr made i).map spD)), none, none, some (.lst false ((pr made j).map spD)), none, none]) (i := 3) (fun k => spD (slW ss made g ((k : Nat) : Int) (.minus i j))) rfl hMi M0 (by omega) rfl (fun k hk => ?_)
      have x1 := ix_pt (ss := pr made i) (i := ((k : Nat) : Int)) (by omega) (by omega) false
      have x2 := ix_pt (ss := pr made j) (i := ((k : Nat) : Int)) (by omega) (by omega) false
      have ea := takesp_ok (pt (pr made i) ((k : Nat) : Int)) (pt (pr made j) ((k : Nat) : Int))
      refine ⟨_, [some n0, some (.lst false S), some (.lst false Md), some (.int Mi), some (.int g), some (.str "minus"), none, some (.lst false ((pr made i).map spD)), none, none, some (.lst false ((pr made j).map spD)), some (.int (0 + ((k : Nat) : Int))), none], x_gN, ?_, rfl⟩
      show _ = R.ok (spD (subS (pt (pr made i) ((k : Nat) : Int)) (pt (pr made j) ((k : Nat) : Int)))) _
      rw [Int.zero_add]
      generalize ((k : Nat) : Int) = kk at *
      have f1 : ∀ p, isFz (spD p) = true := fun _ => rfl
      have f2 : ∀ p, freeze (spD p) = spD p := fun _ => rfl
      have y9 := f1 (pt (pr made i) kk); have y10 := f2 (pt (pr made i) kk); have y11 := f1 (pt (pr made j) kk); have y12 := f2 (pt (pr made j) kk)
      have x1 : gIx (.lst false (List.map spD (pr made i))) (.int kk) = some (spD (pt (pr made i) kk)) := x1
      have x2 : gIx (.lst false (List.map spD (pr made j))) (.int kk) = some (spD (pt (pr made j) kk)) := x2
      clear eL
      generalize spD (subS (pt (pr made i) kk) (pt (pr made j) kk)) = R0 at *
      generalize spD (pt (pr made i) kk) = P1 at *
      generalize spD (pt (pr made j) kk) = P2 at *
      generalize List.map spD (pr made i) = RR at *
      generalize List.map spD (pr made j) = RR2 at *
      simp only [x_seq, x_seq1, x_seq2, x_seq3, x_seq4, x_seq5, x_seq6, x_nil, x_if, x_if1, x_if2, x_if3, x_ret, x_ret1, x_ret2, x_ret3, x_retN, x_asg, x_asg1, x_asg2, x_asg3, x_asg4, x_asg5, x_gN, x_drop, x_drop1, x_drop2, x_bk, x_ct, x_raise, x_tZ, x_tZ1, x_tZ2, x_tE, x_tE1, x_tE2, x_tE3, x_tAnd, x_tAnd1, x_tAnd2, x_tAnd3, x_tOr, x_tOr1, x_tOr2, x_tOr3, x_tNot, x_tNot1, x_tNot2, x_tNot3, x_tTrue, x_z2, x_z21, x_z1, x_z11, x_zC, x_zC1, x_za, x_za1, x_za0, x_zV, x_zK, x_ch, x_ch1, x_ch2, x_eZ, x_eZ1, x_eZ2, x_eV, x_eV1, x_eM, x_eM1, x_b1, x_b2, x_b3, x_s1, x_s2, x_s3, x_oO, x_oO2, x_e2, x_e1, x_eC, x_aN, x_aC, x_tup, x_lst, x_call, x_oC1, x_oC2, x_call0, x_call01, x_eAnd, x_eAnd1, x_eOr, x_eOr1, x_eNot, x_eNot1, x_eIf, x_eIf1, x_fz_int, x_fr_int, x_fz_bl, x_fr_bl, x_fz_str, x_fr_str, x_fz_ty, x_fr_ty, x_fz_tup, x_fr_tup, x_fz_cst, x_fr_cst, x_fz_lst_false, x_fr_lst_false, x_fz_non, x_fr_non, x_fz_lt, x_fr_lt, x_fL0, x_fL1, x_cF, x_cR1, x_cR2, x_cR3, x_iL, x_iL1, x_iT, x_iT1, x_iS, x_iS1, x_iR1, x_iR11, x_iR2, x_iR21, x_iE, x_iE1, x_iV, x_iV1, x_iZ, x_iZ1, x_for, x_fo0, x_fo1, x_fo2, x_fo3, x_fo4, x_fo5, x_fo6, x_fo7, x_gT, x_gC, x_gC0, x_try, x_try1, x_try2, x_try3, x_try4, x_try5, x_nx1, x_nx2, x_try6, x_try7, x_nx3, x_nx4, x_app, x_app1, x_app2, x_lc, x_lcE, x_lc0, x_lc1, x_lcG, x_w0, x_w1, vMinL4, vMaxL4, vAll3, vAny3, vAll4, vAny4, x_wh1, x_wh2, x_wh0, x_abs, vI_ii, vI_ib, vI_it, vI_il, vI_is, vI_bb, vI_bi, vI_tt, vI_tl, vI_ti, vI_ll, vI_lt, vI_ss, vEqB, vNeB, x_ta, x_ta1, x_ta2, x_ta3, x_ta4, x_ta5, x_is, nc_0, nc_1, nc_2, nc_3, nc_4, nc_5, nc_6, nc_7, nc_8, nc_9, nc_10, nc_11, vMax2, vMin2, vIsN0, vIsN1, vNotN0, vNotN1, vIsN2, vNotN2, x_lo, x_lo1, x_lo2, vAll2, vAny2, x_sl, x_sl1, x_sl2, x_pn, x_ps, x_ps1, x_cutL, x_cutC, vEqS, vNeS, x_fz_obj, x_fr_obj, x_make, x_meth, x_meth2, x_meth3, x_isO, x_isO1, x_cat, x_cat1, x_methZ, x_methZ2, x_methZ3, x_callZ, x_callZ1, x_lend1, x_lend2, x_cl_int, x_cl_bl, x_cl_str, x_cl_non, x_cl_tup, x_cl0, x_cl1, x_cl_lst, x_setIx, x_setIx1, x_setIx2, x_callI, x_callI1, x_callI2, x_callI3, x_take0, x_take1, x_take2, x_put0, x_put1, x_cFI, x_cRI1, x_cRI2, x_outR, x_outR1, x_out1, x_out2, x_par, x_par1, x_sort, x_sort1, x_sort2, x_io2, x_io4, vIsB, x_pop, x_lr, x_lr1, x_clr, x_clr1, x_clrE, x_clrE1, x_pop1, x_pop2, x_ins, x_ins1, x_ins2, List.all_cons, List.all_nil, Option.isSome_some, Option.map_some, List.getD_cons_zero, List.getD_cons_succ, List.set_cons_zero, List.set_cons_succ, List.map_cons, List.map_nil, List.replicate_zero, List.replicate_succ, List.length_cons, List.length_nil, List.cons_append, List.nil_append, Option.bind_some, if_true, if_false, Bool.false_eq_true, Nat.reduceSub, Nat.reduceAdd, Nat.reduceLeDiff, Nat.reduceLT, vAdd, vSub, vLt, vLe, vGt, vGe, vNeg, vEq, vNe, vEq2, vNe2, vMod, vDiv, vMul, vPow, Int.reduceToNat, vIx0, vIx1, vLenT, vLenC, vLenL, reduceIte, decide_true, decide_false, Bool.not_true, Bool.not_false, beq_self_eq_true, Bool.and_true, Bool.true_and, Bool.and_self, Bool.and_false, Bool.false_and, x1, x2, ea, y9, y10, y11, y12]
    rw [eL]
    have x1 := ix_pr (made := made) i0 i1 false
    have x2 := ix_pr (made := made) j0 j1 false
    generalize (List.range m).map (fun k => spD (slW ss made g ((k : Nat) : Int) (.minus i j))) = L at *
    generalize ss.map spD = S at *
    generalize made.map (rwD false) = Md at *
    have ec := ec S Md
    simp only [rwD] at x1 x2 ec
    generalize List.map spD (pr made i) = RR at *
    generalize List.map spD (pr made j) = RR2 at *
    simp only [f_slope_of, m_slope_of, Nd.d, vIxT2, we_minus_number, we_minus_unknown, we_minus_power, we_minus_plus, we_minus_minus, x_seq, x_seq1, x_seq2, x_seq3, x_seq4, x_seq5, x_seq6, x_nil, x_if, x_if1, x_if2, x_if3, x_ret, x_ret1, x_ret2, x_ret3, x_retN, x_asg, x_asg1, x_asg2, x_asg3, x_asg4, x_asg5, x_gN, x_drop, x_drop1, x_drop2, x_bk, x_ct, x_raise, x_tZ, x_tZ1, x_tZ2, x_tE, x_tE1, x_tE2, x_tE3, x_tAnd, x_tAnd1, x_tAnd2, x_tAnd3, x_tOr, x_tOr1, x_tOr2, x_tOr3, x_tNot, x_tNot1, x_tNot2, x_tNot3, x_tTrue, x_z2, x_z21, x_z1, x_z11, x_zC, x_zC1, x_za, x_za1, x_za0, x_zV, x_zK, x_ch, x_ch1, x_ch2, x_eZ, x_eZ1, x_eZ2, x_eV, x_eV1, x_eM, x_eM1, x_b1, x_b2, x_b3, x_s1, x_s2, x_s3, x_oO, x_oO2, x_e2, x_e1, x_eC, x_aN, x_aC, x_tup, x_lst, x_call, x_oC1, x_oC2, x_call0, x_call01, x_eAnd, x_eAnd1, x_eOr, x_eOr1, x_eNot, x_eNot1, x_eIf, x_eIf1, x_fz_int, x_fr_int, x_fz_bl, x_fr_bl, x_fz_str, x_fr_str, x_fz_ty, x_fr_ty, x_fz_tup, x_fr_tup, x_fz_cst, x_fr_cst, x_fz_lst_false, x_fr_lst_false, x_fz_non, x_fr_non, x_fz_lt, x_fr_lt, x_fL0, x_fL1, x_cF, x_cR1, x_cR2, x_cR3, x_iL, x_iL1, x_iT, x_iT1, x_iS, x_iS1, x_iR1, x_iR11, x_iR2, x_iR21, x_iE, x_iE1, x_iV, x_iV1, x_iZ, x_iZ1, x_for, x_fo0, x_fo1, x_fo2, x_fo3, x_fo4, x_fo5, x_fo6, x_fo7, x_gT, x_gC, x_gC0, x_try, x_try1, x_try2, x_try3, x_try4, x_try5, x_nx1, x_nx2, x_try6, x_try7, x_nx3, x_nx4, x_app, x_app1, x_app2, x_lc, x_lcE, x_lc0, x_lc1, x_lcG, x_w0, x_w1, vMinL4, vMaxL4, vAll3, vAny3, vAll4, vAny4, x_wh1, x_wh2, x_wh0, x_abs, vI_ii, vI_ib, vI_it, vI_il, vI_is, vI_bb, vI_bi, vI_tt, vI_tl, vI_ti, vI_ll, vI_lt, vI_ss, vEqB, vNeB, x_ta, x_ta1, x_ta2, x_ta3, x_ta4, x_ta5, x_is, nc_0, nc_1, nc_2, nc_3, nc_4, nc_5, nc_6, nc_7, nc_8, nc_9, nc_10, nc_11, vMax2, vMin2, vIsN0, vIsN1, vNotN0, vNotN1, vIsN2, vNotN2, x_lo, x_lo1, x_lo2, vAll2, vAny2, x_sl, x_sl1, x_sl2, x_pn, x_ps, x_ps1, x_cutL, x_cutC, vEqS, vNeS, x_fz_obj, x_fr_obj, x_make, x_meth, x_meth2, x_meth3, x_isO, x_isO1, x_cat, x_cat1, x_methZ, x_methZ2, x_methZ3, x_callZ, x_callZ1, x_lend1, x_lend2, x_cl_int, x_cl_bl, x_cl_str, x_cl_non, x_cl_tup, x_cl0, x_cl1, x_cl_lst, x_setIx, x_setIx1, x_setIx2, x_callI, x_callI1, x_callI2, x_callI3, x_take0, x_take1, x_take2, x_put0, x_put1, x_cFI, x_cRI1, x_cRI2, x_outR, x_outR1, x_out1, x_out2, x_par, x_par1, x_sort, x_sort1, x_sort2, x_io2, x_io4, vIsB, x_pop, x_lr, x_lr1, x_clr, x_clr1, x_clrE, x_clrE1, x_pop1, x_pop2, x_ins, x_ins1, x_ins2, List.all_cons, List.all_nil, Option.isSome_some, Option.map_some, List.getD_cons_zero, List.getD_cons_succ, List.set_cons_zero, List.set_cons_succ, List.map_cons, List.map_nil, List.replicate_zero, List.replicate_succ, List.length_cons, List.length_nil, List.cons_append, List.nil_append, Option.bind_some, if_true, if_false, Bool.false_eq_true, Nat.reduceSub, Nat.reduceAdd, Nat.reduceLeDiff, Nat.reduceLT, vAdd, vSub, vLt, vLe, vGt, vGe, vNeg, vEq, vNe, vEq2, vNe2, vMod, vDiv, vMul, vPow, Int.reduceToNat, vIx0, vIx1, vLenT, vLenC, vLenL, reduceIte, decide_true, decide_false, Bool.not_true, Bool.not_false, beq_self_eq_true, Bool.and_true, Bool.true_and, Bool.and_self, Bool.and_false, Bool.false_and, x1, x2, ec]
  | times i j =>
    obtain ⟨i0, i1, j0, j1⟩ := hB
    have hr1 := rl i0 i1
    have hr2 := rl j0 j1
    obtain ⟨_, bi1, bi2⟩ := big i i0 (by omega)
    obtain ⟨_, bj1, bj2⟩ := big j j0 (by omega)
    have eL := row_map ss made g m (.times i j)
    have x3 := ix_pt (ss := ss) i0 (by omega) false
    have x4 := ix_pt (ss := ss) j0 (by omega) false
    have ec : ∀ (S Md : List D), gIx (.lst false S) (.int i) = some (spD (pt ss i)) → gIx (.lst false S) (.int j) = some (spD (pt ss j)) → ∃ x11 x12, w_slope_of_1 [some (Nd.times i j).d, some (.lst false S), some (.lst false Md), some (.int Mi), some (.int g), some (.str "times"), some (.lst true []), some (.lst false ((pr made i).map spD)), none, none, some (.lst false ((pr made j).map spD)), none, none] = .nx [some (Nd.times i j).d, some (.lst false S), some (.lst false Md), some (.int Mi), some (.int g), some (.str "times"), some (.lst true ((List.range m).map fun k => spD (slW ss made g ((k : Nat) : Int) (.times i j)))), some (.lst false ((pr made i).map spD)), none, none, some (.lst false ((pr made j).map spD)), x11, x12] := fun S Md y3 y4 => by
      obtain ⟨τ', e, x11, x12, rfl⟩ := for_idx (g := gN 11) (b := l_slope_of) (fun k τ => ∃ x11 x12, τ = [some (Nd.times i j).d, some (.lst false S), some (.lst false Md), some (.int Mi), some (.int g), some (.str "times"), some (.lst true ((List.range k).map fun k => spD (slW ss made g ((k : Nat) : Int) (.times i j)))), some (.lst false ((pr made i).map spD)), none, none, some (.lst false ((pr made j).map spD)), x11, x12]) (rangeD 0 m) 0 [some (Nd.times i j).d, some (.lst false S), some (.lst false Md), some (.int Mi), some (.int g), some (.str "times"), some (.lst true []), some (.lst false ((pr made i).map spD)), none, none, some (.lst false ((pr made j).map spD)), none, none] (fun k d τ hd hI => by
        obtain ⟨hk, rfl⟩ := rangeD_get hd
        obtain ⟨x11, x12, rfl⟩ := hI
        rw [Nat.zero_add]
        have x1 := ix_pt (ss := pr made i) (i := ((k : Nat) : Int)) (by omega) (by omega) false
        have x2 := ix_pt (ss := pr made j) (i := ((k : Nat) : Int)) (by omega) (by omega) false
        have em1 := mulsp_ok g1 gb ⟨bi1, bi2⟩ (s1000 j0 j1 (show (0 : Int) ≤ ((k : Nat) : Int) by omega) (by omega))
        have em2 := mulsp_ok g1 gb ⟨bj1, bj2⟩ (s1000 i0 i1 (show (0 : Int) ≤ ((k : Nat) : Int) by omega) (by omega))
        have ea := addsp_ok (mulS (pt ss i) (pt (pr made j) ((k : Nat) : Int)) g) (mulS (pt ss j) (pt (pr made i) ((k : Nat) : Int)) g)
        have ap : (List.range (k + 1)).map (fun k => spD (slW ss made g ((k : Nat) : Int) (.times i j))) = (List.range k).map (fun k => spD (slW ss made g ((k : Nat) : Int) (.times i j))) ++ [spD (addS (mulS (pt ss i) (pt (pr made j) ((k : Nat) : Int)) g) (mulS (pt ss j) (pt (pr made i) ((k : Nat) : Int)) g))] := by
          rw [List.range_succ, List.map_append]; rfl
        have z : ((List.range k).map (fun k => spD (slW ss made g ((k : Nat) : Int) (.times i j)))).length < 1000000 := by simp; omega
        refine ⟨_, _, x_gN, .inl ?_, some (.int (0 + ((k : Nat) : Int))), some (spD (mulS (pt ss i) (pt (pr made j) ((k : Nat) : Int)) g)), rfl⟩
        rw [ap, Int.zero_add]
        skip
        generalize (List.range k).map (fun k => spD (slW ss made g ((k : Nat) : Int) (.times i j))) = L0 at *
        generalize ((k : Nat) : Int) = kk at *
        have f1 : ∀ p, isFz (spD p) = true := fun _ => rfl
        have f2 : ∀ p, freeze (spD p) = spD p := fun _ => rfl
        have y1 := f1 (mulS (pt ss i) (pt (pr made j) kk) g); have y2 := f2 (mulS (pt ss i) (pt (pr made j) kk) g)
        have y13 := f1 (mulS (pt ss j) (pt (pr made i) kk) g); have y14 := f2 (mulS (pt ss j) (pt (pr made i) kk) g)
        have y15 := f1 (addS (mulS (pt ss i) (pt (pr made j) kk) g) (mulS (pt ss j) (pt (pr made i) kk) g)); have y16 := f2 (addS (mulS (pt ss i) (pt (pr made j) kk) g) (mulS (pt ss j) (pt (pr made i) kk) g))
        have y5 := f1 (pt ss i); have y6 := f2 (pt ss i); have y7 := f1 (pt ss j); have y8 := f2 (pt ss j)
        have y9 := f1 (pt (pr made i) kk); have y10 := f2 (pt (pr made i) kk); have y11 := f1 (pt (pr made j) kk); have y12 := f2 (pt (pr made j) kk)
        have x1 : gIx (.lst false (List.map spD (pr made i))) (.int kk) = some (spD (pt (pr made i) kk)) := x1
        have x2 : gIx (.lst false (List.map spD (pr made j))) (.int kk) = some (spD (pt (pr made j) kk)) := x2
        generalize spD (addS (mulS (pt ss i) (pt (pr made j) kk) g) (mulS (pt ss j) (pt (pr made i) kk) g)) = R0 at *
        generalize spD (mulS (pt ss i) (pt (pr made j) kk) g) = R1 at *
        generalize spD (mulS (pt ss j) (pt (pr made i) kk) g) = R2 at *
        generalize spD (pt (pr made i) kk) = P1 at *
        generalize spD (pt (pr made j) kk) = P2 at *
        generalize spD (pt ss i) = P3 at *
        generalize spD (pt ss j) = P4 at *
        generalize List.map spD (pr made i) = RR at *
        generalize List.map spD (pr made j) = RR2 at *
        simp only [l_slope_of, Nd.d, vIxT2, x_seq, x_seq1, x_seq2, x_seq3, x_seq4, x_seq5, x_seq6, x_nil, x_if, x_if1, x_if2, x_if3, x_ret, x_ret1, x_ret2, x_ret3, x_retN, x_asg, x_asg1, x_asg2, x_asg3, x_asg4, x_asg5, x_gN, x_drop, x_drop1, x_drop2, x_bk, x_ct, x_raise, x_tZ, x_tZ1, x_tZ2, x_tE, x_tE1, x_tE2, x_tE3, x_tAnd, x_tAnd1, x_tAnd2, x_tAnd3, x_tOr, x_tOr1, x_tOr2, x_tOr3, x_tNot, x_tNot1, x_tNot2, x_tNot3, x_tTrue, x_z2, x_z21, x_z1, x_z11, x_zC, x_zC1, x_za, x_za1, x_za0, x_zV, x_zK, x_ch, x_ch1, x_ch2, x_eZ, x_eZ1, x_eZ2, x_eV, x_eV1, x_eM, x_eM1, x_b1, x_b2, x_b3, x_s1, x_s2, x_s3, x_oO, x_oO2, x_e2, x_e1, x_eC, x_aN, x_aC, x_tup, x_lst, x_call, x_oC1, x_oC2, x_call0, x_call01, x_eAnd, x_eAnd1, x_eOr, x_eOr1, x_eNot, x_eNot1, x_eIf, x_eIf1, x_fz_int, x_fr_int, x_fz_bl, x_fr_bl, x_fz_str, x_fr_str, x_fz_ty, x_fr_ty, x_fz_tup, x_fr_tup, x_fz_cst, x_fr_cst, x_fz_lst_false, x_fr_lst_false, x_fz_non, x_fr_non, x_fz_lt, x_fr_lt, x_fL0, x_fL1, x_cF, x_cR1, x_cR2, x_cR3, x_iL, x_iL1, x_iT, x_iT1, x_iS, x_iS1, x_iR1, x_iR11, x_iR2, x_iR21, x_iE, x_iE1, x_iV, x_iV1, x_iZ, x_iZ1, x_for, x_fo0, x_fo1, x_fo2, x_fo3, x_fo4, x_fo5, x_fo6, x_fo7, x_gT, x_gC, x_gC0, x_try, x_try1, x_try2, x_try3, x_try4, x_try5, x_nx1, x_nx2, x_try6, x_try7, x_nx3, x_nx4, x_app, x_app1, x_app2, x_lc, x_lcE, x_lc0, x_lc1, x_lcG, x_w0, x_w1, vMinL4, vMaxL4, vAll3, vAny3, vAll4, vAny4, x_wh1, x_wh2, x_wh0, x_abs, vI_ii, vI_ib, vI_it, vI_il, vI_is, vI_bb, vI_bi, vI_tt, vI_tl, vI_ti, vI_ll, vI_lt, vI_ss, vEqB, vNeB, x_ta, x_ta1, x_ta2, x_ta3, x_ta4, x_ta5, x_is, nc_0, nc_1, nc_2, nc_3, nc_4, nc_5, nc_6, nc_7, nc_8, nc_9, nc_10, nc_11, vMax2, vMin2, vIsN0, vIsN1, vNotN0, vNotN1, vIsN2, vNotN2, x_lo, x_lo1, x_lo2, vAll2, vAny2, x_sl, x_sl1, x_sl2, x_pn, x_ps, x_ps1, x_cutL, x_cutC, vEqS, vNeS, x_fz_obj, x_fr_obj, x_make, x_meth, x_meth2, x_meth3, x_isO, x_isO1, x_cat, x_cat1, x_methZ, x_methZ2, x_methZ3, x_callZ, x_callZ1, x_lend1, x_lend2, x_cl_int, x_cl_bl, x_cl_str, x_cl_non, x_cl_tup, x_cl0, x_cl1, x_cl_lst, x_setIx, x_setIx1, x_setIx2, x_callI, x_callI1, x_callI2, x_callI3, x_take0, x_take1, x_take2, x_put0, x_put1, x_cFI, x_cRI1, x_cRI2, x_outR, x_outR1, x_out1, x_out2, x_par, x_par1, x_sort, x_sort1, x_sort2, x_io2, x_io4, vIsB, x_pop, x_lr, x_lr1, x_clr, x_clr1, x_clrE, x_clrE1, x_pop1, x_pop2, x_ins, x_ins1, x_ins2, List.all_cons, List.all_nil, Option.isSome_some, Option.map_some, List.getD_cons_zero, List.getD_cons_succ, List.set_cons_zero, List.set_cons_succ, List.map_cons, List.map_nil, List.replicate_zero, List.replicate_succ, List.length_cons, List.length_nil, List.cons_append, List.nil_append, Option.bind_some, if_true, if_false, Bool.false_eq_true, Nat.reduceSub, Nat.reduceAdd, Nat.reduceLeDiff, Nat.reduceLT, vAdd, vSub, vLt, vLe, vGt, vGe, vNeg, vEq, vNe, vEq2, vNe2, vMod, vDiv, vMul, vPow, Int.reduceToNat, vIx0, vIx1, vLenT, vLenC, vLenL, reduceIte, decide_true, decide_false, Bool.not_true, Bool.not_false, beq_self_eq_true, Bool.and_true, Bool.true_and, Bool.and_self, Bool.and_false, Bool.false_and, x1, x2, em1, em2, ea, y1, y2, y3, y4, y5, y6, y7, y8, y9, y10, y11, y12, y13, y14, y15, y16, z]) ⟨none, none, rfl⟩
      rw [Nat.zero_add, length_rangeD] at *
      refine ⟨x11, x12, ?_⟩
      show sFor (iR1 (aCons (eVar 3) aNil)) (gN 11) l_slope_of [some (Nd.times i j).d, some (.lst false S), some (.lst false Md), some (.int Mi), some (.int g), some (.str "times"), some (.lst true []), some (.lst false ((pr made i).map spD)), none, none, some (.lst false ((pr made j).map spD)), none, none] = _
      rw [x_for_range (N := Mi) (n := m) (τ1 := [some (Nd.times i j).d, some (.lst false S), some (.lst false Md), some (.int Mi), some (.int g), some (.str "times"), some (.lst true []), some (.lst false ((pr made i).map spD)), none, none, some (.lst false ((pr made j).map spD)), none, none]) (by simp only [x_seq, x_seq1, x_seq2, x_seq3, x_seq4, x_seq5, x_seq6, x_nil, x_if, x_if1, x_if2, x_if3, x_ret, x_ret1, x_ret2, x_ret3, x_retN, x_asg, x_asg1, x_asg2, x_asg3, x_asg4, x_asg5, x_gN, x_drop, x_drop1, x_drop2, x_bk, x_ct, x_raise, x_tZ, x_tZ1, x_tZ2, x_tE, x_tE1, x_tE2, x_tE3, x_tAnd, x_tAnd1, x_tAnd2, x_tAnd3, x_tOr, x_tOr1, x_tOr2, x_tOr3, x_tNot, x_tNot1, x_tNot2, x_tNot3, x_tTrue, x_z2, x_z21, x_z1, x_z11, x_zC, x_zC1, x_za, x_za1, x_za0, x_zV, x_zK, x_ch, x_ch1, x_ch2, x_eZ, x_eZ1, x_eZ2, x_eV, x_eV1, x_eM, x_eM1, x_b1, x_b2, x_b3, x_s1, x_s2, x_s3, x_oO, x_oO2, x_e2, x_e1, x_eC, x_aN, x_aC, x_tup, x_lst, x_call, x_oC1, x_oC2, x_call0, x_call01, x_eAnd, x_eAnd1, x_eOr, x_eOr1, x_eNot, x_eNot1, x_eIf, x_eIf1, x_fz_int, x_fr_int, x_fz_bl, x_fr_bl, x_fz_str, x_fr_str, x_fz_ty, x_fr_ty, x_fz_tup, x_fr_tup, x_fz_cst, x_fr_cst, x_fz_lst_false, x_fr_lst_false, x_fz_non, x_fr_non, x_fz_lt, x_fr_lt, x_fL0, x_fL1, x_cF, x_cR1, x_cR2, x_cR3, x_iL, x_iL1, x_iT, x_iT1, x_iS, x_iS1, x_iR1, x_iR11, x_iR2, x_iR21, x_iE, x_iE1, x_iV, x_iV1, x_iZ, x_iZ1, x_for, x_fo0, x_fo1, x_fo2, x_fo3, x_fo4, x_fo5, x_fo6, x_fo7, x_gT, x_gC, x_gC0, x_try, x_try1, x_try2, x_try3, x_try4, x_try5, x_nx1, x_nx2, x_try6, x_try7, x_nx3, x_nx4, x_app, x_app1, x_app2, x_lc, x_lcE, x_lc0, x_lc1, x_lcG, x_w0, x_w1, vMinL4, vMaxL4, vAll3, vAny3, vAll4, vAny4, x_wh1, x_wh2, x_wh0, x_abs, vI_ii, vI_ib, vI_it, vI_il, vI_is, vI_bb, vI_bi, vI_tt, vI_tl, vI_ti, vI_ll, vI_lt, vI_ss, vEqB, vNeB, x_ta, x_ta1, x_ta2, x_ta3, x_ta4, x_ta5, x_is, nc_0, nc_1, nc_2, nc_3, nc_4, nc_5, nc_6, nc_7, nc_8, nc_9, nc_10, nc_11, vMax2, vMin2, vIsN0, vIsN1, vNotN0, vNotN1, vIsN2, vNotN2, x_lo, x_lo1, x_lo2, vAll2, vAny2, x_sl, x_sl1, x_sl2, x_pn, x_ps, x_ps1, x_cutL, x_cutC, vEqS, vNeS, x_fz_obj, x_fr_obj, x_make, x_meth, x_meth2, x_meth3, x_isO, x_isO1, x_cat, x_cat1, x_methZ, x_methZ2, x_methZ3, x_callZ, x_callZ1, x_lend1, x_lend2, x_cl_int, x_cl_bl, x_cl_str, x_cl_non, x_cl_tup, x_cl0, x_cl1, x_cl_lst, x_setIx, x_setIx1, x_setIx2, x_callI, x_callI1, x_callI2, x_callI3, x_take0, x_take1, x_take2, x_put0, x_put1, x_cFI, x_cRI1, x_cRI2, x_outR, x_outR1, x_out1, x_out2, x_par, x_par1, x_sort, x_sort1, x_sort2, x_io2, x_io4, vIsB, x_pop, x_lr, x_lr1, x_clr, x_clr1, x_clrE, x_clrE1, x_pop1, x_pop2, x_ins, x_ins1, x_ins2, List.all_cons, List.all_nil, Option.isSome_some, Option.map_some, List.getD_cons_zero, List.getD_cons_succ, List.set_cons_zero, List.set_cons_succ, List.map_cons, List.map_nil, List.replicate_zero, List.replicate_succ, List.length_cons, List.length_nil, List.cons_append, List.nil_append, Option.bind_some, if_true, if_false, Bool.false_eq_true, Nat.reduceSub, Nat.reduceAdd, Nat.reduceLeDiff, Nat.reduceLT, vAdd, vSub, vLt, vLe, vGt, vGe, vNeg, vEq, vNe, vEq2, vNe2, vMod, vDiv, vMul, vPow, Int.reduceToNat, vIx0, vIx1, vLenT, vLenC, vLenL, reduceIte, decide_true, decide_false, Bool.not_true, Bool.not_false, beq_self_eq_true, Bool.and_true, Bool.true_and, Bool.and_self, Bool.and_false, Bool.false_and]) M0 (by omega) hMi]
      exact e
    rw [eL]
    have x1 := ix_pr (made := made) i0 i1 false
    have x2 := ix_pr (made := made) j0 j1 false
    generalize (List.range m).map (fun k => spD (slW ss made g ((k : Nat) : Int) (.times i j))) = L at *
    generalize ss.map spD = S at *
    generalize made.map (rwD false) = Md at *
    obtain ⟨x11, x12, ec⟩ := ec S Md x3 x4
    simp only [rwD, Nd.d] at x1 x2 ec
    generalize List.map spD (pr made i) = RR at *
    generalize List.map spD (pr made j) = RR2 at *
    simp only [f_slope_of, m_slope_of, Nd.d, vIxT2, we_times_number, we_times_unknown, we_times_power, we_times_plus, we_times_minus, x_seq, x_seq1, x_seq2, x_seq3, x_seq4, x_seq5, x_seq6, x_nil, x_if, x_if1, x_if2, x_if3, x_ret, x_ret1, x_ret2, x_ret3, x_retN, x_asg, x_asg1, x_asg2, x_asg3, x_asg4, x_asg5, x_gN, x_drop, x_drop1, x_drop2, x_bk, x_ct, x_raise, x_tZ, x_tZ1, x_tZ2, x_tE, x_tE1, x_tE2, x_tE3, x_tAnd, x_tAnd1, x_tAnd2, x_tAnd3, x_tOr, x_tOr1, x_tOr2, x_tOr3, x_tNot, x_tNot1, x_tNot2, x_tNot3, x_tTrue, x_z2, x_z21, x_z1, x_z11, x_zC, x_zC1, x_za, x_za1, x_za0, x_zV, x_zK, x_ch, x_ch1, x_ch2, x_eZ, x_eZ1, x_eZ2, x_eV, x_eV1, x_eM, x_eM1, x_b1, x_b2, x_b3, x_s1, x_s2, x_s3, x_oO, x_oO2, x_e2, x_e1, x_eC, x_aN, x_aC, x_tup, x_lst, x_call, x_oC1, x_oC2, x_call0, x_call01, x_eAnd, x_eAnd1, x_eOr, x_eOr1, x_eNot, x_eNot1, x_eIf, x_eIf1, x_fz_int, x_fr_int, x_fz_bl, x_fr_bl, x_fz_str, x_fr_str, x_fz_ty, x_fr_ty, x_fz_tup, x_fr_tup, x_fz_cst, x_fr_cst, x_fz_lst_false, x_fr_lst_false, x_fz_non, x_fr_non, x_fz_lt, x_fr_lt, x_fL0, x_fL1, x_cF, x_cR1, x_cR2, x_cR3, x_iL, x_iL1, x_iT, x_iT1, x_iS, x_iS1, x_iR1, x_iR11, x_iR2, x_iR21, x_iE, x_iE1, x_iV, x_iV1, x_iZ, x_iZ1, x_for, x_fo0, x_fo1, x_fo2, x_fo3, x_fo4, x_fo5, x_fo6, x_fo7, x_gT, x_gC, x_gC0, x_try, x_try1, x_try2, x_try3, x_try4, x_try5, x_nx1, x_nx2, x_try6, x_try7, x_nx3, x_nx4, x_app, x_app1, x_app2, x_lc, x_lcE, x_lc0, x_lc1, x_lcG, x_w0, x_w1, vMinL4, vMaxL4, vAll3, vAny3, vAll4, vAny4, x_wh1, x_wh2, x_wh0, x_abs, vI_ii, vI_ib, vI_it, vI_il, vI_is, vI_bb, vI_bi, vI_tt, vI_tl, vI_ti, vI_ll, vI_lt, vI_ss, vEqB, vNeB, x_ta, x_ta1, x_ta2, x_ta3, x_ta4, x_ta5, x_is, nc_0, nc_1, nc_2, nc_3, nc_4, nc_5, nc_6, nc_7, nc_8, nc_9, nc_10, nc_11, vMax2, vMin2, vIsN0, vIsN1, vNotN0, vNotN1, vIsN2, vNotN2, x_lo, x_lo1, x_lo2, vAll2, vAny2, x_sl, x_sl1, x_sl2, x_pn, x_ps, x_ps1, x_cutL, x_cutC, vEqS, vNeS, x_fz_obj, x_fr_obj, x_make, x_meth, x_meth2, x_meth3, x_isO, x_isO1, x_cat, x_cat1, x_methZ, x_methZ2, x_methZ3, x_callZ, x_callZ1, x_lend1, x_lend2, x_cl_int, x_cl_bl, x_cl_str, x_cl_non, x_cl_tup, x_cl0, x_cl1, x_cl_lst, x_setIx, x_setIx1, x_setIx2, x_callI, x_callI1, x_callI2, x_callI3, x_take0, x_take1, x_take2, x_put0, x_put1, x_cFI, x_cRI1, x_cRI2, x_outR, x_outR1, x_out1, x_out2, x_par, x_par1, x_sort, x_sort1, x_sort2, x_io2, x_io4, vIsB, x_pop, x_lr, x_lr1, x_clr, x_clr1, x_clrE, x_clrE1, x_pop1, x_pop2, x_ins, x_ins1, x_ins2, List.all_cons, List.all_nil, Option.isSome_some, Option.map_some, List.getD_cons_zero, List.getD_cons_succ, List.set_cons_zero, List.set_cons_succ, List.map_cons, List.map_nil, List.replicate_zero, List.replicate_succ, List.length_cons, List.length_nil, List.cons_append, List.nil_append, Option.bind_some, if_true, if_false, Bool.false_eq_true, Nat.reduceSub, Nat.reduceAdd, Nat.reduceLeDiff, Nat.reduceLT, vAdd, vSub, vLt, vLe, vGt, vGe, vNeg, vEq, vNe, vEq2, vNe2, vMod, vDiv, vMul, vPow, Int.reduceToNat, vIx0, vIx1, vLenT, vLenC, vLenL, reduceIte, decide_true, decide_false, Bool.not_true, Bool.not_false, beq_self_eq_true, Bool.and_true, Bool.true_and, Bool.and_self, Bool.and_false, Bool.false_and, x1, x2, ec]
theorem lslope_ok {Mi : Int} {m : Nat} {ns : List Nd} {ws : List Int} (hN : Net Mi ns ws) (hMi : Mi.toNat = m) (M0 : 0 ≤ Mi) {ss : List (Int × Int)} {made : List (List (Int × Int))} (hs : Gv ws ss) (hsl : ss.length ≤ ns.length) (hsl2 : made.length ≤ ss.length) (hm : Gs m ws made) {n : Nd} (hB : n.B made.length Mi) (hw : wt ws n ≤ 16) {g : Int} (g1 : 1 ≤ g) (g2 : g ≤ 1000000) {k : Int} (k0 : 0 ≤ k) (k1 : k < m) :
    f__law_slope [n.d, .lst false (ss.map spD), .lst false (made.map (rwD false)), .int k, .int g] = .ok (spD (slW ss made g k n)) := by
  have gb : g.natAbs < 2 ^ 60 := by omega
  have big := hs.big hN hsl
  have wa : ∀ {i : Int}, 0 ≤ i → i < made.length → 1 ≤ ws.getD i.toNat 0 ∧ ws.getD i.toNat 0 ≤ 16 := fun h0 h1 => hN.at h0 (by omega)
  have s1000 : ∀ {i : Int}, 0 ≤ i → i < made.length → Sz 1000 (pt (pr made i) k) := fun {i} i0 i1 => by
    have := wa i0 i1
    exact (hm.at i0 i1 k0 k1).2.1.mono (by omega)
  have rl : ∀ {i : Int}, 0 ≤ i → i < made.length → k < (pr made i).length := fun i0 i1 => by rw [(hm.g _ _ (pr_get i0 i1)).1]; exact k1
  have f1 : ∀ p, isFz (spD p) = true := fun _ => rfl
  have f2 : ∀ p, freeze (spD p) = spD p := fun _ => rfl
  cases n with
  | num t b =>
    show _ = CR.ok (.tup [.int 0, .int 0])
    generalize ss.map spD = S at *
    generalize made.map (rwD false) = Md at *
    simp only [f__law_slope, m__law_slope, Nd.d, we_number_number, x_seq, x_seq1, x_seq2, x_seq3, x_seq4, x_seq5, x_seq6, x_nil, x_if, x_if1, x_if2, x_if3, x_ret, x_ret1, x_ret2, x_ret3, x_retN, x_asg, x_asg1, x_asg2, x_asg3, x_asg4, x_asg5, x_gN, x_drop, x_drop1, x_drop2, x_bk, x_ct, x_raise, x_tZ, x_tZ1, x_tZ2, x_tE, x_tE1, x_tE2, x_tE3, x_tAnd, x_tAnd1, x_tAnd2, x_tAnd3, x_tOr, x_tOr1, x_tOr2, x_tOr3, x_tNot, x_tNot1, x_tNot2, x_tNot3, x_tTrue, x_z2, x_z21, x_z1, x_z11, x_zC, x_zC1, x_za, x_za1, x_za0, x_zV, x_zK, x_ch, x_ch1, x_ch2, x_eZ, x_eZ1, x_eZ2, x_eV, x_eV1, x_eM, x_eM1, x_b1, x_b2, x_b3, x_s1, x_s2, x_s3, x_oO, x_oO2, x_e2, x_e1, x_eC, x_aN, x_aC, x_tup, x_lst, x_call, x_oC1, x_oC2, x_call0, x_call01, x_eAnd, x_eAnd1, x_eOr, x_eOr1, x_eNot, x_eNot1, x_eIf, x_eIf1, x_fz_int, x_fr_int, x_fz_bl, x_fr_bl, x_fz_str, x_fr_str, x_fz_ty, x_fr_ty, x_fz_tup, x_fr_tup, x_fz_cst, x_fr_cst, x_fz_lst_false, x_fr_lst_false, x_fz_non, x_fr_non, x_fz_lt, x_fr_lt, x_fL0, x_fL1, x_cF, x_cR1, x_cR2, x_cR3, x_iL, x_iL1, x_iT, x_iT1, x_iS, x_iS1, x_iR1, x_iR11, x_iR2, x_iR21, x_iE, x_iE1, x_iV, x_iV1, x_iZ, x_iZ1, x_for, x_fo0, x_fo1, x_fo2, x_fo3, x_fo4, x_fo5, x_fo6, x_fo7, x_gT, x_gC, x_gC0, x_try, x_try1, x_try2, x_try3, x_try4, x_try5, x_nx1, x_nx2, x_try6, x_try7, x_nx3, x_nx4, x_app, x_app1, x_app2, x_lc, x_lcE, x_lc0, x_lc1, x_lcG, x_w0, x_w1, vMinL4, vMaxL4, vAll3, vAny3, vAll4, vAny4, x_wh1, x_wh2, x_wh0, x_abs, vI_ii, vI_ib, vI_it, vI_il, vI_is, vI_bb, vI_bi, vI_tt, vI_tl, vI_ti, vI_ll, vI_lt, vI_ss, vEqB, vNeB, x_ta, x_ta1, x_ta2, x_ta3, x_ta4, x_ta5, x_is, nc_0, nc_1, nc_2, nc_3, nc_4, nc_5, nc_6, nc_7, nc_8, nc_9, nc_10, nc_11, vMax2, vMin2, vIsN0, vIsN1, vNotN0, vNotN1, vIsN2, vNotN2, x_lo, x_lo1, x_lo2, vAll2, vAny2, x_sl, x_sl1, x_sl2, x_pn, x_ps, x_ps1, x_cutL, x_cutC, vEqS, vNeS, x_fz_obj, x_fr_obj, x_make, x_meth, x_meth2, x_meth3, x_isO, x_isO1, x_cat, x_cat1, x_methZ, x_methZ2, x_methZ3, x_callZ, x_callZ1, x_lend1, x_lend2, x_cl_int, x_cl_bl, x_cl_str, x_cl_non, x_cl_tup, x_cl0, x_cl1, x_cl_lst, x_setIx, x_setIx1, x_setIx2, x_callI, x_callI1, x_callI2, x_callI3, x_take0, x_take1, x_take2, x_put0, x_put1, x_cFI, x_cRI1, x_cRI2, x_outR, x_outR1, x_out1, x_out2, x_par, x_par1, x_sort, x_sort1, x_sort2, x_io2, x_io4, vIsB, x_pop, x_lr, x_lr1, x_clr, x_clr1, x_clrE, x_clrE1, x_pop1, x_pop2, x_ins, x_ins1, x_ins2, List.all_cons, List.all_nil, Option.isSome_some, Option.map_some, List.getD_cons_zero, List.getD_cons_succ, List.set_cons_zero, List.set_cons_succ, List.map_cons, List.map_nil, List.replicate_zero, List.replicate_succ, List.length_cons, List.length_nil, List.cons_append, List.nil_append, Option.bind_some, if_true, if_false, Bool.false_eq_true, Nat.reduceSub, Nat.reduceAdd, Nat.reduceLeDiff, Nat.reduceLT, vAdd, vSub, vLt, vLe, vGt, vGe, vNeg, vEq, vNe, vEq2, vNe2, vMod, vDiv, vMul, vPow, Int.reduceToNat, vIx0, vIx1, vLenT, vLenC, vLenL, reduceIte, decide_true, decide_false, Bool.not_true, Bool.not_false, beq_self_eq_true, Bool.and_true, Bool.true_and, Bool.and_self, Bool.and_false, Bool.false_and]
  | unk j =>
    obtain ⟨j0, j1⟩ := hB
    show _ = CR.ok (spD (if j = k then (g, g) else (0, 0)))
    generalize ss.map spD = S at *
    generalize made.map (rwD false) = Md at *
    by_cases h : j = k
    · have h' : (!(j == k)) = false := by simp [h]
      rw [if_pos h]
      simp only [f__law_slope, m__law_slope, Nd.d, we_unknown_number, we_unknown_unknown, x_seq, x_seq1, x_seq2, x_seq3, x_seq4, x_seq5, x_seq6, x_nil, x_if, x_if1, x_if2, x_if3, x_ret, x_ret1, x_ret2, x_ret3, x_retN, x_asg, x_asg1, x_asg2, x_asg3, x_asg4, x_asg5, x_gN, x_drop, x_drop1, x_drop2, x_bk, x_ct, x_raise, x_tZ, x_tZ1, x_tZ2, x_tE, x_tE1, x_tE2, x_tE3, x_tAnd, x_tAnd1, x_tAnd2, x_tAnd3, x_tOr, x_tOr1, x_tOr2, x_tOr3, x_tNot, x_tNot1, x_tNot2, x_tNot3, x_tTrue, x_z2, x_z21, x_z1, x_z11, x_zC, x_zC1, x_za, x_za1, x_za0, x_zV, x_zK, x_ch, x_ch1, x_ch2, x_eZ, x_eZ1, x_eZ2, x_eV, x_eV1, x_eM, x_eM1, x_b1, x_b2, x_b3, x_s1, x_s2, x_s3, x_oO, x_oO2, x_e2, x_e1, x_eC, x_aN, x_aC, x_tup, x_lst, x_call, x_oC1, x_oC2, x_call0, x_call01, x_eAnd, x_eAnd1, x_eOr, x_eOr1, x_eNot, x_eNot1, x_eIf, x_eIf1, x_fz_int, x_fr_int, x_fz_bl, x_fr_bl, x_fz_str, x_fr_str, x_fz_ty, x_fr_ty, x_fz_tup, x_fr_tup, x_fz_cst, x_fr_cst, x_fz_lst_false, x_fr_lst_false, x_fz_non, x_fr_non, x_fz_lt, x_fr_lt, x_fL0, x_fL1, x_cF, x_cR1, x_cR2, x_cR3, x_iL, x_iL1, x_iT, x_iT1, x_iS, x_iS1, x_iR1, x_iR11, x_iR2, x_iR21, x_iE, x_iE1, x_iV, x_iV1, x_iZ, x_iZ1, x_for, x_fo0, x_fo1, x_fo2, x_fo3, x_fo4, x_fo5, x_fo6, x_fo7, x_gT, x_gC, x_gC0, x_try, x_try1, x_try2, x_try3, x_try4, x_try5, x_nx1, x_nx2, x_try6, x_try7, x_nx3, x_nx4, x_app, x_app1, x_app2, x_lc, x_lcE, x_lc0, x_lc1, x_lcG, x_w0, x_w1, vMinL4, vMaxL4, vAll3, vAny3, vAll4, vAny4, x_wh1, x_wh2, x_wh0, x_abs, vI_ii, vI_ib, vI_it, vI_il, vI_is, vI_bb, vI_bi, vI_tt, vI_tl, vI_ti, vI_ll, vI_lt, vI_ss, vEqB, vNeB, x_ta, x_ta1, x_ta2, x_ta3, x_ta4, x_ta5, x_is, nc_0, nc_1, nc_2, nc_3, nc_4, nc_5, nc_6, nc_7, nc_8, nc_9, nc_10, nc_11, vMax2, vMin2, vIsN0, vIsN1, vNotN0, vNotN1, vIsN2, vNotN2, x_lo, x_lo1, x_lo2, vAll2, vAny2, x_sl, x_sl1, x_sl2, x_pn, x_ps, x_ps1, x_cutL, x_cutC, vEqS, vNeS, x_fz_obj, x_fr_obj, x_make, x_meth, x_meth2, x_meth3, x_isO, x_isO1, x_cat, x_cat1, x_methZ, x_methZ2, x_methZ3, x_callZ, x_callZ1, x_lend1, x_lend2, x_cl_int, x_cl_bl, x_cl_str, x_cl_non, x_cl_tup, x_cl0, x_cl1, x_cl_lst, x_setIx, x_setIx1, x_setIx2, x_callI, x_callI1, x_callI2, x_callI3, x_take0, x_take1, x_take2, x_put0, x_put1, x_cFI, x_cRI1, x_cRI2, x_outR, x_outR1, x_out1, x_out2, x_par, x_par1, x_sort, x_sort1, x_sort2, x_io2, x_io4, vIsB, x_pop, x_lr, x_lr1, x_clr, x_clr1, x_clrE, x_clrE1, x_pop1, x_pop2, x_ins, x_ins1, x_ins2, List.all_cons, List.all_nil, Option.isSome_some, Option.map_some, List.getD_cons_zero, List.getD_cons_succ, List.set_cons_zero, List.set_cons_succ, List.map_cons, List.map_nil, List.replicate_zero, List.replicate_succ, List.length_cons, List.length_nil, List.cons_append, List.nil_append, Option.bind_some, if_true, if_false, Bool.false_eq_true, Nat.reduceSub, Nat.reduceAdd, Nat.reduceLeDiff, Nat.reduceLT, vAdd, vSub, vLt, vLe, vGt, vGe, vNeg, vEq, vNe, vEq2, vNe2, vMod, vDiv, vMul, vPow, Int.reduceToNat, vIx0, vIx1, vLenT, vLenC, vLenL, reduceIte, decide_true, decide_false, Bool.not_true, Bool.not_false, beq_self_eq_true, Bool.and_true, Bool.true_and, Bool.and_self, Bool.and_false, Bool.false_and, h', spD]
    · have h' : (!(j == k)) = true := by simp [h]
      rw [if_neg h]
      simp only [f__law_slope, m__law_slope, Nd.d, we_unknown_number, we_unknown_unknown, x_seq, x_seq1, x_seq2, x_seq3, x_seq4, x_seq5, x_seq6, x_nil, x_if, x_if1, x_if2, x_if3, x_ret, x_ret1, x_ret2, x_ret3, x_retN, x_asg, x_asg1, x_asg2, x_asg3, x_asg4, x_asg5, x_gN, x_drop, x_drop1, x_drop2, x_bk, x_ct, x_raise, x_tZ, x_tZ1, x_tZ2, x_tE, x_tE1, x_tE2, x_tE3, x_tAnd, x_tAnd1, x_tAnd2, x_tAnd3, x_tOr, x_tOr1, x_tOr2, x_tOr3, x_tNot, x_tNot1, x_tNot2, x_tNot3, x_tTrue, x_z2, x_z21, x_z1, x_z11, x_zC, x_zC1, x_za, x_za1, x_za0, x_zV, x_zK, x_ch, x_ch1, x_ch2, x_eZ, x_eZ1, x_eZ2, x_eV, x_eV1, x_eM, x_eM1, x_b1, x_b2, x_b3, x_s1, x_s2, x_s3, x_oO, x_oO2, x_e2, x_e1, x_eC, x_aN, x_aC, x_tup, x_lst, x_call, x_oC1, x_oC2, x_call0, x_call01, x_eAnd, x_eAnd1, x_eOr, x_eOr1, x_eNot, x_eNot1, x_eIf, x_eIf1, x_fz_int, x_fr_int, x_fz_bl, x_fr_bl, x_fz_str, x_fr_str, x_fz_ty, x_fr_ty, x_fz_tup, x_fr_tup, x_fz_cst, x_fr_cst, x_fz_lst_false, x_fr_lst_false, x_fz_non, x_fr_non, x_fz_lt, x_fr_lt, x_fL0, x_fL1, x_cF, x_cR1, x_cR2, x_cR3, x_iL, x_iL1, x_iT, x_iT1, x_iS, x_iS1, x_iR1, x_iR11, x_iR2, x_iR21, x_iE, x_iE1, x_iV, x_iV1, x_iZ, x_iZ1, x_for, x_fo0, x_fo1, x_fo2, x_fo3, x_fo4, x_fo5, x_fo6, x_fo7, x_gT, x_gC, x_gC0, x_try, x_try1, x_try2, x_try3, x_try4, x_try5, x_nx1, x_nx2, x_try6, x_try7, x_nx3, x_nx4, x_app, x_app1, x_app2, x_lc, x_lcE, x_lc0, x_lc1, x_lcG, x_w0, x_w1, vMinL4, vMaxL4, vAll3, vAny3, vAll4, vAny4, x_wh1, x_wh2, x_wh0, x_abs, vI_ii, vI_ib, vI_it, vI_il, vI_is, vI_bb, vI_bi, vI_tt, vI_tl, vI_ti, vI_ll, vI_lt, vI_ss, vEqB, vNeB, x_ta, x_ta1, x_ta2, x_ta3, x_ta4, x_ta5, x_is, nc_0, nc_1, nc_2, nc_3, nc_4, nc_5, nc_6, nc_7, nc_8, nc_9, nc_10, nc_11, vMax2, vMin2, vIsN0, vIsN1, vNotN0, vNotN1, vIsN2, vNotN2, x_lo, x_lo1, x_lo2, vAll2, vAny2, x_sl, x_sl1, x_sl2, x_pn, x_ps, x_ps1, x_cutL, x_cutC, vEqS, vNeS, x_fz_obj, x_fr_obj, x_make, x_meth, x_meth2, x_meth3, x_isO, x_isO1, x_cat, x_cat1, x_methZ, x_methZ2, x_methZ3, x_callZ, x_callZ1, x_lend1, x_lend2, x_cl_int, x_cl_bl, x_cl_str, x_cl_non, x_cl_tup, x_cl0, x_cl1, x_cl_lst, x_setIx, x_setIx1, x_setIx2, x_callI, x_callI1, x_callI2, x_callI3, x_take0, x_take1, x_take2, x_put0, x_put1, x_cFI, x_cRI1, x_cRI2, x_outR, x_outR1, x_out1, x_out2, x_par, x_par1, x_sort, x_sort1, x_sort2, x_io2, x_io4, vIsB, x_pop, x_lr, x_lr1, x_clr, x_clr1, x_clrE, x_clrE1, x_pop1, x_pop2, x_ins, x_ins1, x_ins2, List.all_cons, List.all_nil, Option.isSome_some, Option.map_some, List.getD_cons_zero, List.getD_cons_succ, List.set_cons_zero, List.set_cons_succ, List.map_cons, List.map_nil, List.replicate_zero, List.replicate_succ, List.length_cons, List.length_nil, List.cons_append, List.nil_append, Option.bind_some, if_true, if_false, Bool.false_eq_true, Nat.reduceSub, Nat.reduceAdd, Nat.reduceLeDiff, Nat.reduceLT, vAdd, vSub, vLt, vLe, vGt, vGe, vNeg, vEq, vNe, vEq2, vNe2, vMod, vDiv, vMul, vPow, Int.reduceToNat, vIx0, vIx1, vLenT, vLenC, vLenL, reduceIte, decide_true, decide_false, Bool.not_true, Bool.not_false, beq_self_eq_true, Bool.and_true, Bool.true_and, Bool.and_self, Bool.and_false, Bool.false_and, h', spD]
  | pow i q =>
    obtain ⟨i0, i1, k2, k6⟩ := hB
    obtain ⟨l, b1, b2⟩ := big i i0 (by omega)
    have w := wa i0 i1
    obtain ⟨_, z3⟩ := hs.at i0 (show i < (ss.length : Int) by omega)
    have lim : (54 * (ws.getD i.toNat 0).toNat - 1) * (q - 1).toNat + 3 ≤ 1000 := pow_lim k2 w.1 hw
    have pz : Sz 1000 (powS (pt ss i) (q - 1).toNat g) := (Sz.pow (by omega) z3 g1).mono (by omega)
    have er := (rise_ok l k2 k6 g1 gb ⟨b1, b2⟩ pz (powS_le l (by omega) g1)).2
    have fz : Sz 1000 (facS (pt ss i) q g) := (facS_sz z3 k2 k6 g1).mono (by omega)
    have em := lprod_ok g1 gb fz (s1000 i0 i1)
    have x1 := ix_pr (made := made) i0 i1 false
    have x2 : gIx (.lst false (ss.map spD)) (.int i) = some (spD (pt ss i)) := ix_pt (ss := ss) i0 (by omega) false
    have x3 := ix_row (r := pr made i) k0 (rl i0 i1) false
    show _ = CR.ok (spD (mulS (facS (pt ss i) q g) (pt (pr made i) k) g))
    clear pz fz
    have y1 := f1 (pt ss i); have y2 := f2 (pt ss i); have y3 := f1 (pt (pr made i) k); have y4 := f2 (pt (pr made i) k); have y5 := f1 (facS (pt ss i) q g); have y6 := f2 (facS (pt ss i) q g)
    generalize spD (mulS (facS (pt ss i) q g) (pt (pr made i) k) g) = R0 at *
    generalize spD (facS (pt ss i) q g) = R1 at *
    generalize spD (pt (pr made i) k) = P1 at *
    generalize spD (pt ss i) = P2 at *
    generalize rwD false (pr made i) = RR at *
    generalize ss.map spD = S at *
    generalize made.map (rwD false) = Md at *
    simp only [f__law_slope, m__law_slope, Nd.d, vIxT2, we_power_number, we_power_unknown, we_power_power, x_seq, x_seq1, x_seq2, x_seq3, x_seq4, x_seq5, x_seq6, x_nil, x_if, x_if1, x_if2, x_if3, x_ret, x_ret1, x_ret2, x_ret3, x_retN, x_asg, x_asg1, x_asg2, x_asg3, x_asg4, x_asg5, x_gN, x_drop, x_drop1, x_drop2, x_bk, x_ct, x_raise, x_tZ, x_tZ1, x_tZ2, x_tE, x_tE1, x_tE2, x_tE3, x_tAnd, x_tAnd1, x_tAnd2, x_tAnd3, x_tOr, x_tOr1, x_tOr2, x_tOr3, x_tNot, x_tNot1, x_tNot2, x_tNot3, x_tTrue, x_z2, x_z21, x_z1, x_z11, x_zC, x_zC1, x_za, x_za1, x_za0, x_zV, x_zK, x_ch, x_ch1, x_ch2, x_eZ, x_eZ1, x_eZ2, x_eV, x_eV1, x_eM, x_eM1, x_b1, x_b2, x_b3, x_s1, x_s2, x_s3, x_oO, x_oO2, x_e2, x_e1, x_eC, x_aN, x_aC, x_tup, x_lst, x_call, x_oC1, x_oC2, x_call0, x_call01, x_eAnd, x_eAnd1, x_eOr, x_eOr1, x_eNot, x_eNot1, x_eIf, x_eIf1, x_fz_int, x_fr_int, x_fz_bl, x_fr_bl, x_fz_str, x_fr_str, x_fz_ty, x_fr_ty, x_fz_tup, x_fr_tup, x_fz_cst, x_fr_cst, x_fz_lst_false, x_fr_lst_false, x_fz_non, x_fr_non, x_fz_lt, x_fr_lt, x_fL0, x_fL1, x_cF, x_cR1, x_cR2, x_cR3, x_iL, x_iL1, x_iT, x_iT1, x_iS, x_iS1, x_iR1, x_iR11, x_iR2, x_iR21, x_iE, x_iE1, x_iV, x_iV1, x_iZ, x_iZ1, x_for, x_fo0, x_fo1, x_fo2, x_fo3, x_fo4, x_fo5, x_fo6, x_fo7, x_gT, x_gC, x_gC0, x_try, x_try1, x_try2, x_try3, x_try4, x_try5, x_nx1, x_nx2, x_try6, x_try7, x_nx3, x_nx4, x_app, x_app1, x_app2, x_lc, x_lcE, x_lc0, x_lc1, x_lcG, x_w0, x_w1, vMinL4, vMaxL4, vAll3, vAny3, vAll4, vAny4, x_wh1, x_wh2, x_wh0, x_abs, vI_ii, vI_ib, vI_it, vI_il, vI_is, vI_bb, vI_bi, vI_tt, vI_tl, vI_ti, vI_ll, vI_lt, vI_ss, vEqB, vNeB, x_ta, x_ta1, x_ta2, x_ta3, x_ta4, x_ta5, x_is, nc_0, nc_1, nc_2, nc_3, nc_4, nc_5, nc_6, nc_7, nc_8, nc_9, nc_10, nc_11, vMax2, vMin2, vIsN0, vIsN1, vNotN0, vNotN1, vIsN2, vNotN2, x_lo, x_lo1, x_lo2, vAll2, vAny2, x_sl, x_sl1, x_sl2, x_pn, x_ps, x_ps1, x_cutL, x_cutC, vEqS, vNeS, x_fz_obj, x_fr_obj, x_make, x_meth, x_meth2, x_meth3, x_isO, x_isO1, x_cat, x_cat1, x_methZ, x_methZ2, x_methZ3, x_callZ, x_callZ1, x_lend1, x_lend2, x_cl_int, x_cl_bl, x_cl_str, x_cl_non, x_cl_tup, x_cl0, x_cl1, x_cl_lst, x_setIx, x_setIx1, x_setIx2, x_callI, x_callI1, x_callI2, x_callI3, x_take0, x_take1, x_take2, x_put0, x_put1, x_cFI, x_cRI1, x_cRI2, x_outR, x_outR1, x_out1, x_out2, x_par, x_par1, x_sort, x_sort1, x_sort2, x_io2, x_io4, vIsB, x_pop, x_lr, x_lr1, x_clr, x_clr1, x_clrE, x_clrE1, x_pop1, x_pop2, x_ins, x_ins1, x_ins2, List.all_cons, List.all_nil, Option.isSome_some, Option.map_some, List.getD_cons_zero, List.getD_cons_succ, List.set_cons_zero, List.set_cons_succ, List.map_cons, List.map_nil, List.replicate_zero, List.replicate_succ, List.length_cons, List.length_nil, List.cons_append, List.nil_append, Option.bind_some, if_true, if_false, Bool.false_eq_true, Nat.reduceSub, Nat.reduceAdd, Nat.reduceLeDiff, Nat.reduceLT, vAdd, vSub, vLt, vLe, vGt, vGe, vNeg, vEq, vNe, vEq2, vNe2, vMod, vDiv, vMul, vPow, Int.reduceToNat, vIx0, vIx1, vLenT, vLenC, vLenL, reduceIte, decide_true, decide_false, Bool.not_true, Bool.not_false, beq_self_eq_true, Bool.and_true, Bool.true_and, Bool.and_self, Bool.and_false, Bool.false_and, x1, x2, x3, er, em, y1, y2, y3, y4, y5, y6]
  | plus i j =>
    obtain ⟨i0, i1, j0, j1⟩ := hB
    have x1 := ix_pr (made := made) i0 i1 false
    have x2 := ix_pr (made := made) j0 j1 false
    have x3 := ix_row (r := pr made i) k0 (rl i0 i1) false
    have x4 := ix_row (r := pr made j) k0 (rl j0 j1) false
    have ea := lplus_ok (pt (pr made i) k) (pt (pr made j) k)
    show _ = CR.ok (spD (addS (pt (pr made i) k) (pt (pr made j) k)))
    have y1 := f1 (pt (pr made i) k); have y2 := f2 (pt (pr made i) k); have y3 := f1 (pt (pr made j) k); have y4 := f2 (pt (pr made j) k)
    generalize spD (addS (pt (pr made i) k) (pt (pr made j) k)) = R0 at *
    generalize spD (pt (pr made i) k) = P1 at *
    generalize spD (pt (pr made j) k) = P2 at *
    generalize rwD false (pr made i) = RR at *
    generalize rwD false (pr made j) = RR2 at *
    generalize ss.map spD = S at *
    generalize made.map (rwD false) = Md at *
    simp only [f__law_slope, m__law_slope, Nd.d, vIxT2, we_plus_number, we_plus_unknown, we_plus_power, we_plus_plus, x_seq, x_seq1, x_seq2, x_seq3, x_seq4, x_seq5, x_seq6, x_nil, x_if, x_if1, x_if2, x_if3, x_ret, x_ret1, x_ret2, x_ret3, x_retN, x_asg, x_asg1, x_asg2, x_asg3, x_asg4, x_asg5, x_gN, x_drop, x_drop1, x_drop2, x_bk, x_ct, x_raise, x_tZ, x_tZ1, x_tZ2, x_tE, x_tE1, x_tE2, x_tE3, x_tAnd, x_tAnd1, x_tAnd2, x_tAnd3, x_tOr, x_tOr1, x_tOr2, x_tOr3, x_tNot, x_tNot1, x_tNot2, x_tNot3, x_tTrue, x_z2, x_z21, x_z1, x_z11, x_zC, x_zC1, x_za, x_za1, x_za0, x_zV, x_zK, x_ch, x_ch1, x_ch2, x_eZ, x_eZ1, x_eZ2, x_eV, x_eV1, x_eM, x_eM1, x_b1, x_b2, x_b3, x_s1, x_s2, x_s3, x_oO, x_oO2, x_e2, x_e1, x_eC, x_aN, x_aC, x_tup, x_lst, x_call, x_oC1, x_oC2, x_call0, x_call01, x_eAnd, x_eAnd1, x_eOr, x_eOr1, x_eNot, x_eNot1, x_eIf, x_eIf1, x_fz_int, x_fr_int, x_fz_bl, x_fr_bl, x_fz_str, x_fr_str, x_fz_ty, x_fr_ty, x_fz_tup, x_fr_tup, x_fz_cst, x_fr_cst, x_fz_lst_false, x_fr_lst_false, x_fz_non, x_fr_non, x_fz_lt, x_fr_lt, x_fL0, x_fL1, x_cF, x_cR1, x_cR2, x_cR3, x_iL, x_iL1, x_iT, x_iT1, x_iS, x_iS1, x_iR1, x_iR11, x_iR2, x_iR21, x_iE, x_iE1, x_iV, x_iV1, x_iZ, x_iZ1, x_for, x_fo0, x_fo1, x_fo2, x_fo3, x_fo4, x_fo5, x_fo6, x_fo7, x_gT, x_gC, x_gC0, x_try, x_try1, x_try2, x_try3, x_try4, x_try5, x_nx1, x_nx2, x_try6, x_try7, x_nx3, x_nx4, x_app, x_app1, x_app2, x_lc, x_lcE, x_lc0, x_lc1, x_lcG, x_w0, x_w1, vMinL4, vMaxL4, vAll3, vAny3, vAll4, vAny4, x_wh1, x_wh2, x_wh0, x_abs, vI_ii, vI_ib, vI_it, vI_il, vI_is, vI_bb, vI_bi, vI_tt, vI_tl, vI_ti, vI_ll, vI_lt, vI_ss, vEqB, vNeB, x_ta, x_ta1, x_ta2, x_ta3, x_ta4, x_ta5, x_is, nc_0, nc_1, nc_2, nc_3, nc_4, nc_5, nc_6, nc_7, nc_8, nc_9, nc_10, nc_11, vMax2, vMin2, vIsN0, vIsN1, vNotN0, vNotN1, vIsN2, vNotN2, x_lo, x_lo1, x_lo2, vAll2, vAny2, x_sl, x_sl1, x_sl2, x_pn, x_ps, x_ps1, x_cutL, x_cutC, vEqS, vNeS, x_fz_obj, x_fr_obj, x_make, x_meth, x_meth2, x_meth3, x_isO, x_isO1, x_cat, x_cat1, x_methZ, x_methZ2, x_methZ3, x_callZ, x_callZ1, x_lend1, x_lend2, x_cl_int, x_cl_bl, x_cl_str, x_cl_non, x_cl_tup, x_cl0, x_cl1, x_cl_lst, x_setIx, x_setIx1, x_setIx2, x_callI, x_callI1, x_callI2, x_callI3, x_take0, x_take1, x_take2, x_put0, x_put1, x_cFI, x_cRI1, x_cRI2, x_outR, x_outR1, x_out1, x_out2, x_par, x_par1, x_sort, x_sort1, x_sort2, x_io2, x_io4, vIsB, x_pop, x_lr, x_lr1, x_clr, x_clr1, x_clrE, x_clrE1, x_pop1, x_pop2, x_ins, x_ins1, x_ins2, List.all_cons, List.all_nil, Option.isSome_some, Option.map_some, List.getD_cons_zero, List.getD_cons_succ, List.set_cons_zero, List.set_cons_succ, List.map_cons, List.map_nil, List.replicate_zero, List.replicate_succ, List.length_cons, List.length_nil, List.cons_append, List.nil_append, Option.bind_some, if_true, if_false, Bool.false_eq_true, Nat.reduceSub, Nat.reduceAdd, Nat.reduceLeDiff, Nat.reduceLT, vAdd, vSub, vLt, vLe, vGt, vGe, vNeg, vEq, vNe, vEq2, vNe2, vMod, vDiv, vMul, vPow, Int.reduceToNat, vIx0, vIx1, vLenT, vLenC, vLenL, reduceIte, decide_true, decide_false, Bool.not_true, Bool.not_false, beq_self_eq_true, Bool.and_true, Bool.true_and, Bool.and_self, Bool.and_false, Bool.false_and, x1, x2, x3, x4, ea, y1, y2, y3, y4]
  | minus i j =>
    obtain ⟨i0, i1, j0, j1⟩ := hB
    have x1 := ix_pr (made := made) i0 i1 false
    have x2 := ix_pr (made := made) j0 j1 false
    have x3 := ix_row (r := pr made i) k0 (rl i0 i1) false
    have x4 := ix_row (r := pr made j) k0 (rl j0 j1) false
    have ea := lless_ok (pt (pr made i) k) (pt (pr made j) k)
    show _ = CR.ok (spD (subS (pt (pr made i) k) (pt (pr made j) k)))
    have y1 := f1 (pt (pr made i) k); have y2 := f2 (pt (pr made i) k); have y3 := f1 (pt (pr made j) k); have y4 := f2 (pt (pr made j) k)
    generalize spD (subS (pt (pr made i) k) (pt (pr made j) k)) = R0 at *
    generalize spD (pt (pr made i) k) = P1 at *
    generalize spD (pt (pr made j) k) = P2 at *
    generalize rwD false (pr made i) = RR at *
    generalize rwD false (pr made j) = RR2 at *
    generalize ss.map spD = S at *
    generalize made.map (rwD false) = Md at *
    simp only [f__law_slope, m__law_slope, Nd.d, vIxT2, we_minus_number, we_minus_unknown, we_minus_power, we_minus_plus, we_minus_minus, x_seq, x_seq1, x_seq2, x_seq3, x_seq4, x_seq5, x_seq6, x_nil, x_if, x_if1, x_if2, x_if3, x_ret, x_ret1, x_ret2, x_ret3, x_retN, x_asg, x_asg1, x_asg2, x_asg3, x_asg4, x_asg5, x_gN, x_drop, x_drop1, x_drop2, x_bk, x_ct, x_raise, x_tZ, x_tZ1, x_tZ2, x_tE, x_tE1, x_tE2, x_tE3, x_tAnd, x_tAnd1, x_tAnd2, x_tAnd3, x_tOr, x_tOr1, x_tOr2, x_tOr3, x_tNot, x_tNot1, x_tNot2, x_tNot3, x_tTrue, x_z2, x_z21, x_z1, x_z11, x_zC, x_zC1, x_za, x_za1, x_za0, x_zV, x_zK, x_ch, x_ch1, x_ch2, x_eZ, x_eZ1, x_eZ2, x_eV, x_eV1, x_eM, x_eM1, x_b1, x_b2, x_b3, x_s1, x_s2, x_s3, x_oO, x_oO2, x_e2, x_e1, x_eC, x_aN, x_aC, x_tup, x_lst, x_call, x_oC1, x_oC2, x_call0, x_call01, x_eAnd, x_eAnd1, x_eOr, x_eOr1, x_eNot, x_eNot1, x_eIf, x_eIf1, x_fz_int, x_fr_int, x_fz_bl, x_fr_bl, x_fz_str, x_fr_str, x_fz_ty, x_fr_ty, x_fz_tup, x_fr_tup, x_fz_cst, x_fr_cst, x_fz_lst_false, x_fr_lst_false, x_fz_non, x_fr_non, x_fz_lt, x_fr_lt, x_fL0, x_fL1, x_cF, x_cR1, x_cR2, x_cR3, x_iL, x_iL1, x_iT, x_iT1, x_iS, x_iS1, x_iR1, x_iR11, x_iR2, x_iR21, x_iE, x_iE1, x_iV, x_iV1, x_iZ, x_iZ1, x_for, x_fo0, x_fo1, x_fo2, x_fo3, x_fo4, x_fo5, x_fo6, x_fo7, x_gT, x_gC, x_gC0, x_try, x_try1, x_try2, x_try3, x_try4, x_try5, x_nx1, x_nx2, x_try6, x_try7, x_nx3, x_nx4, x_app, x_app1, x_app2, x_lc, x_lcE, x_lc0, x_lc1, x_lcG, x_w0, x_w1, vMinL4, vMaxL4, vAll3, vAny3, vAll4, vAny4, x_wh1, x_wh2, x_wh0, x_abs, vI_ii, vI_ib, vI_it, vI_il, vI_is, vI_bb, vI_bi, vI_tt, vI_tl, vI_ti, vI_ll, vI_lt, vI_ss, vEqB, vNeB, x_ta, x_ta1, x_ta2, x_ta3, x_ta4, x_ta5, x_is, nc_0, nc_1, nc_2, nc_3, nc_4, nc_5, nc_6, nc_7, nc_8, nc_9, nc_10, nc_11, vMax2, vMin2, vIsN0, vIsN1, vNotN0, vNotN1, vIsN2, vNotN2, x_lo, x_lo1, x_lo2, vAll2, vAny2, x_sl, x_sl1, x_sl2, x_pn, x_ps, x_ps1, x_cutL, x_cutC, vEqS, vNeS, x_fz_obj, x_fr_obj, x_make, x_meth, x_meth2, x_meth3, x_isO, x_isO1, x_cat, x_cat1, x_methZ, x_methZ2, x_methZ3, x_callZ, x_callZ1, x_lend1, x_lend2, x_cl_int, x_cl_bl, x_cl_str, x_cl_non, x_cl_tup, x_cl0, x_cl1, x_cl_lst, x_setIx, x_setIx1, x_setIx2, x_callI, x_callI1, x_callI2, x_callI3, x_take0, x_take1, x_take2, x_put0, x_put1, x_cFI, x_cRI1, x_cRI2, x_outR, x_outR1, x_out1, x_out2, x_par, x_par1, x_sort, x_sort1, x_sort2, x_io2, x_io4, vIsB, x_pop, x_lr, x_lr1, x_clr, x_clr1, x_clrE, x_clrE1, x_pop1, x_pop2, x_ins, x_ins1, x_ins2, List.all_cons, List.all_nil, Option.isSome_some, Option.map_some, List.getD_cons_zero, List.getD_cons_succ, List.set_cons_zero, List.set_cons_succ, List.map_cons, List.map_nil, List.replicate_zero, List.replicate_succ, List.length_cons, List.length_nil, List.cons_append, List.nil_append, Option.bind_some, if_true, if_false, Bool.false_eq_true, Nat.reduceSub, Nat.reduceAdd, Nat.reduceLeDiff, Nat.reduceLT, vAdd, vSub, vLt, vLe, vGt, vGe, vNeg, vEq, vNe, vEq2, vNe2, vMod, vDiv, vMul, vPow, Int.reduceToNat, vIx0, vIx1, vLenT, vLenC, vLenL, reduceIte, decide_true, decide_false, Bool.not_true, Bool.not_false, beq_self_eq_true, Bool.and_true, Bool.true_and, Bool.and_self, Bool.and_false, Bool.false_and, x1, x2, x3, x4, ea, y1, y2, y3, y4]
  | times i j =>
    obtain ⟨i0, i1, j0, j1⟩ := hB
    obtain ⟨_, bi1, bi2⟩ := big i i0 (by omega)
    obtain ⟨_, bj1, bj2⟩ := big j j0 (by omega)
    have x1 := ix_pr (made := made) i0 i1 false
    have x2 := ix_pr (made := made) j0 j1 false
    have x3 := ix_row (r := pr made i) k0 (rl i0 i1) false
    have x4 := ix_row (r := pr made j) k0 (rl j0 j1) false
    have x5 : gIx (.lst false (ss.map spD)) (.int i) = some (spD (pt ss i)) := ix_pt (ss := ss) i0 (by omega) false
    have x6 : gIx (.lst false (ss.map spD)) (.int j) = some (spD (pt ss j)) := ix_pt (ss := ss) j0 (by omega) false
    have em1 := lprod_ok g1 gb ⟨bi1, bi2⟩ (s1000 j0 j1)
    have em2 := lprod_ok g1 gb ⟨bj1, bj2⟩ (s1000 i0 i1)
    have ea := lplus_ok (mulS (pt ss i) (pt (pr made j) k) g) (mulS (pt ss j) (pt (pr made i) k) g)
    show _ = CR.ok (spD (addS (mulS (pt ss i) (pt (pr made j) k) g) (mulS (pt ss j) (pt (pr made i) k) g)))
    have y1 := f1 (pt (pr made i) k); have y2 := f2 (pt (pr made i) k); have y3 := f1 (pt (pr made j) k); have y4 := f2 (pt (pr made j) k)
    have y5 := f1 (pt ss i); have y6 := f2 (pt ss i); have y7 := f1 (pt ss j); have y8 := f2 (pt ss j)
    have y9 := f1 (mulS (pt ss i) (pt (pr made j) k) g); have y10 := f2 (mulS (pt ss i) (pt (pr made j) k) g); have y11 := f1 (mulS (pt ss j) (pt (pr made i) k) g); have y12 := f2 (mulS (pt ss j) (pt (pr made i) k) g)
    generalize spD (addS (mulS (pt ss i) (pt (pr made j) k) g) (mulS (pt ss j) (pt (pr made i) k) g)) = R0 at *
    generalize spD (mulS (pt ss i) (pt (pr made j) k) g) = R1 at *
    generalize spD (mulS (pt ss j) (pt (pr made i) k) g) = R2 at *
    generalize spD (pt (pr made i) k) = P1 at *
    generalize spD (pt (pr made j) k) = P2 at *
    generalize spD (pt ss i) = P3 at *
    generalize spD (pt ss j) = P4 at *
    generalize rwD false (pr made i) = RR at *
    generalize rwD false (pr made j) = RR2 at *
    generalize ss.map spD = S at *
    generalize made.map (rwD false) = Md at *
    simp only [f__law_slope, m__law_slope, Nd.d, vIxT2, we_times_number, we_times_unknown, we_times_power, we_times_plus, we_times_minus, x_seq, x_seq1, x_seq2, x_seq3, x_seq4, x_seq5, x_seq6, x_nil, x_if, x_if1, x_if2, x_if3, x_ret, x_ret1, x_ret2, x_ret3, x_retN, x_asg, x_asg1, x_asg2, x_asg3, x_asg4, x_asg5, x_gN, x_drop, x_drop1, x_drop2, x_bk, x_ct, x_raise, x_tZ, x_tZ1, x_tZ2, x_tE, x_tE1, x_tE2, x_tE3, x_tAnd, x_tAnd1, x_tAnd2, x_tAnd3, x_tOr, x_tOr1, x_tOr2, x_tOr3, x_tNot, x_tNot1, x_tNot2, x_tNot3, x_tTrue, x_z2, x_z21, x_z1, x_z11, x_zC, x_zC1, x_za, x_za1, x_za0, x_zV, x_zK, x_ch, x_ch1, x_ch2, x_eZ, x_eZ1, x_eZ2, x_eV, x_eV1, x_eM, x_eM1, x_b1, x_b2, x_b3, x_s1, x_s2, x_s3, x_oO, x_oO2, x_e2, x_e1, x_eC, x_aN, x_aC, x_tup, x_lst, x_call, x_oC1, x_oC2, x_call0, x_call01, x_eAnd, x_eAnd1, x_eOr, x_eOr1, x_eNot, x_eNot1, x_eIf, x_eIf1, x_fz_int, x_fr_int, x_fz_bl, x_fr_bl, x_fz_str, x_fr_str, x_fz_ty, x_fr_ty, x_fz_tup, x_fr_tup, x_fz_cst, x_fr_cst, x_fz_lst_false, x_fr_lst_false, x_fz_non, x_fr_non, x_fz_lt, x_fr_lt, x_fL0, x_fL1, x_cF, x_cR1, x_cR2, x_cR3, x_iL, x_iL1, x_iT, x_iT1, x_iS, x_iS1, x_iR1, x_iR11, x_iR2, x_iR21, x_iE, x_iE1, x_iV, x_iV1, x_iZ, x_iZ1, x_for, x_fo0, x_fo1, x_fo2, x_fo3, x_fo4, x_fo5, x_fo6, x_fo7, x_gT, x_gC, x_gC0, x_try, x_try1, x_try2, x_try3, x_try4, x_try5, x_nx1, x_nx2, x_try6, x_try7, x_nx3, x_nx4, x_app, x_app1, x_app2, x_lc, x_lcE, x_lc0, x_lc1, x_lcG, x_w0, x_w1, vMinL4, vMaxL4, vAll3, vAny3, vAll4, vAny4, x_wh1, x_wh2, x_wh0, x_abs, vI_ii, vI_ib, vI_it, vI_il, vI_is, vI_bb, vI_bi, vI_tt, vI_tl, vI_ti, vI_ll, vI_lt, vI_ss, vEqB, vNeB, x_ta, x_ta1, x_ta2, x_ta3, x_ta4, x_ta5, x_is, nc_0, nc_1, nc_2, nc_3, nc_4, nc_5, nc_6, nc_7, nc_8, nc_9, nc_10, nc_11, vMax2, vMin2, vIsN0, vIsN1, vNotN0, vNotN1, vIsN2, vNotN2, x_lo, x_lo1, x_lo2, vAll2, vAny2, x_sl, x_sl1, x_sl2, x_pn, x_ps, x_ps1, x_cutL, x_cutC, vEqS, vNeS, x_fz_obj, x_fr_obj, x_make, x_meth, x_meth2, x_meth3, x_isO, x_isO1, x_cat, x_cat1, x_methZ, x_methZ2, x_methZ3, x_callZ, x_callZ1, x_lend1, x_lend2, x_cl_int, x_cl_bl, x_cl_str, x_cl_non, x_cl_tup, x_cl0, x_cl1, x_cl_lst, x_setIx, x_setIx1, x_setIx2, x_callI, x_callI1, x_callI2, x_callI3, x_take0, x_take1, x_take2, x_put0, x_put1, x_cFI, x_cRI1, x_cRI2, x_outR, x_outR1, x_out1, x_out2, x_par, x_par1, x_sort, x_sort1, x_sort2, x_io2, x_io4, vIsB, x_pop, x_lr, x_lr1, x_clr, x_clr1, x_clrE, x_clrE1, x_pop1, x_pop2, x_ins, x_ins1, x_ins2, List.all_cons, List.all_nil, Option.isSome_some, Option.map_some, List.getD_cons_zero, List.getD_cons_succ, List.set_cons_zero, List.set_cons_succ, List.map_cons, List.map_nil, List.replicate_zero, List.replicate_succ, List.length_cons, List.length_nil, List.cons_append, List.nil_append, Option.bind_some, if_true, if_false, Bool.false_eq_true, Nat.reduceSub, Nat.reduceAdd, Nat.reduceLeDiff, Nat.reduceLT, vAdd, vSub, vLt, vLe, vGt, vGe, vNeg, vEq, vNe, vEq2, vNe2, vMod, vDiv, vMul, vPow, Int.reduceToNat, vIx0, vIx1, vLenT, vLenC, vLenL, reduceIte, decide_true, decide_false, Bool.not_true, Bool.not_false, beq_self_eq_true, Bool.and_true, Bool.true_and, Bool.and_self, Bool.and_false, Bool.false_and, x1, x2, x3, x4, x5, x6, em1, em2, ea, y1, y2, y3, y4, y5, y6, y7, y8, y9, y10, y11, y12]
theorem methZ_ok (n : Nd) {τ : Bn.Env} {a : List D} : methZA al_forth "forth" n.o (some a) τ = lendR (fo n (n.o :: freezeL a)) τ := by
  cases n <;> simp only [Nd.o, x_methZ2, al_forth_Number, nm_Number_forth, al_forth_Unknown, nm_Unknown_forth, al_forth_Plus, nm_Plus_forth, al_forth_Minus, nm_Minus_forth, al_forth_Times, nm_Times_forth, al_forth_Power, nm_Power_forth, x_methZ3, fo]
theorem Gd.v {ws : List Int} {ss : List (Int × Int)} (hp : ∀ k, k < ss.length → 1 ≤ ws.getD k 0) (h : Gd ws ss) : Gv ws ss := ⟨fun k p e => by
  obtain ⟨h1, h2⟩ := h.g k p e
  have := hp k (List.getElem?_eq_some_iff.mp e).1
  exact ⟨h1, h2.mono (by omega)⟩⟩
theorem gd_v {M : Int} {ns : List Nd} {ws : List Int} (hN : Net M ns ws) {ss : List (Int × Int)} (hl : ss.length ≤ ns.length) (h : Gd ws ss) : Gv ws ss := h.v fun k hk => by
  have := (hN.at (i := ((k : Nat) : Int)) (by omega) (by omega)).1
  rwa [Int.toNat_natCast] at this
theorem worths_ok {M : Int} {ns : List Nd} {ws : List Int} (hN : Net M ns ws) {bs : List (Int × Int)} (hM : M = bs.length) (hb : ∀ p ∈ bs, SpB p) {g : Int} (g1 : 1 ≤ g) (g2 : g ≤ 1000000) (hl : ns.length ≤ 1000) :
    f_worths [.lst false (ns.map Nd.d), .lst false (bs.map spD), .int g] = .ok (.lst true ((runW bs g ns []).map spD)) ∧ f__law_worths [.lst false (ns.map Nd.d), .lst false (bs.map spD), .int g] = .ok (.lst true ((runW bs g ns []).map spD)) := by
  have eI : ∀ x, iL (eVar 0) [some (.lst false (ns.map Nd.d)), some (.lst false (bs.map spD)), some (.int g), some (.lst true []), x] = .ok (ns.map Nd.d) [some (.lst false (ns.map Nd.d)), some (.lst false (bs.map spD)), some (.int g), some (.lst true []), x] := fun x => iL_var rfl
  have hr' : ∀ (k : Nat) (n : Nd), ns[k]? = some n → ns[([] : List (Int × Int)).length + k]? = some n := fun k n h => by simpa using h
  have z0 : ∀ {ss : List (Int × Int)}, ss.length ≤ 1000 → (ss.map spD).length < 1000000 := fun h => by rw [List.length_map]; omega
  have ap : ∀ (ss : List (Int × Int)) (p : Int × Int), (ss ++ [p]).map spD = ss.map spD ++ [spD p] := fun ss p => by rw [List.map_append]; rfl
  have both : ∀ (ss : List (Int × Int)) (n : Nd), Gd ws ss → ns[ss.length]? = some n → fo n [n.o, .lst false (ss.map spD), .lst false (bs.map spD), .int g] = .ok (spD (spW ss bs g n)) ∧ f__law_forth [n.d, .lst false (ss.map spD), .lst false (bs.map spD), .int g] = .ok (spD (spW ss bs g n)) := fun ss n h2 h3 => by
    have hk := (List.getElem?_eq_some_iff.mp h3).1
    exact forth_ok (hN.nd _ _ h3).1 hM (fun i h0 h1 => (gd_v hN (by omega) h2).big hN (by omega) i h0 h1) g1 g2
  refine ⟨?_, ?_⟩
  · obtain ⟨x', e⟩ := loopW hN hM hb g1 g2 (NS := ns.map Nd.d) (b := sApp 3 (eMethZ al_forth "forth" (eCall f_kind_of (aCons (eVar 4) aNil)) (zaCons (zVar 3) (zaCons (zVar 1) (zaCons (zVar 2) zaNil))))) (fun ss n h1 h2 h3 => by
      have f1 := (both ss n h2 h3).1
      have f3 := fz_sp ss
      have f4 := fz_sp bs
      have z1 := z0 h1
      have fz := n.fz
      have fr := n.fr
      rw [ap]
      have cl := cl_sp (spW ss bs g n)
      generalize spW ss bs g n = p at *
      generalize ss.map spD = S at *
      generalize bs.map spD = B at *
      simp only [x_seq, x_seq1, x_seq2, x_seq3, x_seq4, x_seq5, x_seq6, x_nil, x_if, x_if1, x_if2, x_if3, x_ret, x_ret1, x_ret2, x_ret3, x_retN, x_asg, x_asg1, x_asg2, x_asg3, x_asg4, x_asg5, x_gN, x_drop, x_drop1, x_drop2, x_bk, x_ct, x_raise, x_tZ, x_tZ1, x_tZ2, x_tE, x_tE1, x_tE2, x_tE3, x_tAnd, x_tAnd1, x_tAnd2, x_tAnd3, x_tOr, x_tOr1, x_tOr2, x_tOr3, x_tNot, x_tNot1, x_tNot2, x_tNot3, x_tTrue, x_z2, x_z21, x_z1, x_z11, x_zC, x_zC1, x_za, x_za1, x_za0, x_zV, x_zK, x_ch, x_ch1, x_ch2, x_eZ, x_eZ1, x_eZ2, x_eV, x_eV1, x_eM, x_eM1, x_b1, x_b2, x_b3, x_s1, x_s2, x_s3, x_oO, x_oO2, x_e2, x_e1, x_eC, x_aN, x_aC, x_tup, x_lst, x_call, x_oC1, x_oC2, x_call0, x_call01, x_eAnd, x_eAnd1, x_eOr, x_eOr1, x_eNot, x_eNot1, x_eIf, x_eIf1, x_fz_int, x_fr_int, x_fz_bl, x_fr_bl, x_fz_str, x_fr_str, x_fz_ty, x_fr_ty, x_fz_tup, x_fr_tup, x_fz_cst, x_fr_cst, x_fz_lst_false, x_fr_lst_false, x_fz_non, x_fr_non, x_fz_lt, x_fr_lt, x_fL0, x_fL1, x_cF, x_cR1, x_cR2, x_cR3, x_iL, x_iL1, x_iT, x_iT1, x_iS, x_iS1, x_iR1, x_iR11, x_iR2, x_iR21, x_iE, x_iE1, x_iV, x_iV1, x_iZ, x_iZ1, x_for, x_fo0, x_fo1, x_fo2, x_fo3, x_fo4, x_fo5, x_fo6, x_fo7, x_gT, x_gC, x_gC0, x_try, x_try1, x_try2, x_try3, x_try4, x_try5, x_nx1, x_nx2, x_try6, x_try7, x_nx3, x_nx4, x_app, x_app1, x_app2, x_lc, x_lcE, x_lc0, x_lc1, x_lcG, x_w0, x_w1, vMinL4, vMaxL4, vAll3, vAny3, vAll4, vAny4, x_wh1, x_wh2, x_wh0, x_abs, vI_ii, vI_ib, vI_it, vI_il, vI_is, vI_bb, vI_bi, vI_tt, vI_tl, vI_ti, vI_ll, vI_lt, vI_ss, vEqB, vNeB, x_ta, x_ta1, x_ta2, x_ta3, x_ta4, x_ta5, x_is, nc_0, nc_1, nc_2, nc_3, nc_4, nc_5, nc_6, nc_7, nc_8, nc_9, nc_10, nc_11, vMax2, vMin2, vIsN0, vIsN1, vNotN0, vNotN1, vIsN2, vNotN2, x_lo, x_lo1, x_lo2, vAll2, vAny2, x_sl, x_sl1, x_sl2, x_pn, x_ps, x_ps1, x_cutL, x_cutC, vEqS, vNeS, x_fz_obj, x_fr_obj, x_make, x_meth, x_meth2, x_meth3, x_isO, x_isO1, x_cat, x_cat1, x_methZ, x_methZ2, x_methZ3, x_callZ, x_callZ1, x_lend1, x_lend2, x_cl_int, x_cl_bl, x_cl_str, x_cl_non, x_cl_tup, x_cl0, x_cl1, x_cl_lst, x_setIx, x_setIx1, x_setIx2, x_callI, x_callI1, x_callI2, x_callI3, x_take0, x_take1, x_take2, x_put0, x_put1, x_cFI, x_cRI1, x_cRI2, x_outR, x_outR1, x_out1, x_out2, x_par, x_par1, x_sort, x_sort1, x_sort2, x_io2, x_io4, vIsB, x_pop, x_lr, x_lr1, x_clr, x_clr1, x_clrE, x_clrE1, x_pop1, x_pop2, x_ins, x_ins1, x_ins2, List.all_cons, List.all_nil, Option.isSome_some, Option.map_some, List.getD_cons_zero, List.getD_cons_succ, List.set_cons_zero, List.set_cons_succ, List.map_cons, List.map_nil, List.replicate_zero, List.replicate_succ, List.length_cons, List.length_nil, List.cons_append, List.nil_append, Option.bind_some, if_true, if_false, Bool.false_eq_true, Nat.reduceSub, Nat.reduceAdd, Nat.reduceLeDiff, Nat.reduceLT, vAdd, vSub, vLt, vLe, vGt, vGe, vNeg, vEq, vNe, vEq2, vNe2, vMod, vDiv, vMul, vPow, Int.reduceToNat, vIx0, vIx1, vLenT, vLenC, vLenL, reduceIte, decide_true, decide_false, Bool.not_true, Bool.not_false, beq_self_eq_true, Bool.and_true, Bool.true_and, Bool.and_self, Bool.and_false, Bool.false_and, fz, fr, kind_ok, methZ_ok, f3, f4, f1, cl, z1]) ns [] none (by simpa using hl) (gd_nil ws) hr'
    have ew : w_worths_1 [some (.lst false (ns.map Nd.d)), some (.lst false (bs.map spD)), some (.int g), some (.lst true []), none] = .nx [some (.lst false (ns.map Nd.d)), some (.lst false (bs.map spD)), some (.int g), some (.lst true ((runW bs g ns []).map spD)), x'] := by
      show sFor (iL (eVar 0)) (gN 4) (sApp 3 (eMethZ al_forth "forth" (eCall f_kind_of (aCons (eVar 4) aNil)) (zaCons (zVar 3) (zaCons (zVar 1) (zaCons (zVar 2) zaNil))))) _ = _
      rw [x_for, eI, x_s1]; exact e
    exact (cF_ok (b := m_worths) (n := 3) (N := 5) (τ0 := [some (.lst false (ns.map Nd.d)), some (.lst false (bs.map spD)), some (.int g), none, none]) rfl rfl (x_seq_ok (τ1 := [some (.lst false (ns.map Nd.d)), some (.lst false (bs.map spD)), some (.int g), some (.lst true []), none]) rfl (x_seq_ok ew rfl))).trans rfl
  · obtain ⟨x', e⟩ := loopW hN hM hb g1 g2 (NS := ns.map Nd.d) (b := sApp 3 (eCallZ f__law_forth (zaCons (zVar 4) (zaCons (zVar 3) (zaCons (zVar 1) (zaCons (zVar 2) zaNil)))))) (fun ss n h1 h2 h3 => by
      have f1 := (both ss n h2 h3).2
      have f3 := fz_sp ss
      have f4 := fz_sp bs
      have z1 := z0 h1
      have fz := n.fz
      have fr := n.fr
      rw [ap]
      have cl := cl_sp (spW ss bs g n)
      generalize spW ss bs g n = p at *
      generalize ss.map spD = S at *
      generalize bs.map spD = B at *
      simp only [x_seq, x_seq1, x_seq2, x_seq3, x_seq4, x_seq5, x_seq6, x_nil, x_if, x_if1, x_if2, x_if3, x_ret, x_ret1, x_ret2, x_ret3, x_retN, x_asg, x_asg1, x_asg2, x_asg3, x_asg4, x_asg5, x_gN, x_drop, x_drop1, x_drop2, x_bk, x_ct, x_raise, x_tZ, x_tZ1, x_tZ2, x_tE, x_tE1, x_tE2, x_tE3, x_tAnd, x_tAnd1, x_tAnd2, x_tAnd3, x_tOr, x_tOr1, x_tOr2, x_tOr3, x_tNot, x_tNot1, x_tNot2, x_tNot3, x_tTrue, x_z2, x_z21, x_z1, x_z11, x_zC, x_zC1, x_za, x_za1, x_za0, x_zV, x_zK, x_ch, x_ch1, x_ch2, x_eZ, x_eZ1, x_eZ2, x_eV, x_eV1, x_eM, x_eM1, x_b1, x_b2, x_b3, x_s1, x_s2, x_s3, x_oO, x_oO2, x_e2, x_e1, x_eC, x_aN, x_aC, x_tup, x_lst, x_call, x_oC1, x_oC2, x_call0, x_call01, x_eAnd, x_eAnd1, x_eOr, x_eOr1, x_eNot, x_eNot1, x_eIf, x_eIf1, x_fz_int, x_fr_int, x_fz_bl, x_fr_bl, x_fz_str, x_fr_str, x_fz_ty, x_fr_ty, x_fz_tup, x_fr_tup, x_fz_cst, x_fr_cst, x_fz_lst_false, x_fr_lst_false, x_fz_non, x_fr_non, x_fz_lt, x_fr_lt, x_fL0, x_fL1, x_cF, x_cR1, x_cR2, x_cR3, x_iL, x_iL1, x_iT, x_iT1, x_iS, x_iS1, x_iR1, x_iR11, x_iR2, x_iR21, x_iE, x_iE1, x_iV, x_iV1, x_iZ, x_iZ1, x_for, x_fo0, x_fo1, x_fo2, x_fo3, x_fo4, x_fo5, x_fo6, x_fo7, x_gT, x_gC, x_gC0, x_try, x_try1, x_try2, x_try3, x_try4, x_try5, x_nx1, x_nx2, x_try6, x_try7, x_nx3, x_nx4, x_app, x_app1, x_app2, x_lc, x_lcE, x_lc0, x_lc1, x_lcG, x_w0, x_w1, vMinL4, vMaxL4, vAll3, vAny3, vAll4, vAny4, x_wh1, x_wh2, x_wh0, x_abs, vI_ii, vI_ib, vI_it, vI_il, vI_is, vI_bb, vI_bi, vI_tt, vI_tl, vI_ti, vI_ll, vI_lt, vI_ss, vEqB, vNeB, x_ta, x_ta1, x_ta2, x_ta3, x_ta4, x_ta5, x_is, nc_0, nc_1, nc_2, nc_3, nc_4, nc_5, nc_6, nc_7, nc_8, nc_9, nc_10, nc_11, vMax2, vMin2, vIsN0, vIsN1, vNotN0, vNotN1, vIsN2, vNotN2, x_lo, x_lo1, x_lo2, vAll2, vAny2, x_sl, x_sl1, x_sl2, x_pn, x_ps, x_ps1, x_cutL, x_cutC, vEqS, vNeS, x_fz_obj, x_fr_obj, x_make, x_meth, x_meth2, x_meth3, x_isO, x_isO1, x_cat, x_cat1, x_methZ, x_methZ2, x_methZ3, x_callZ, x_callZ1, x_lend1, x_lend2, x_cl_int, x_cl_bl, x_cl_str, x_cl_non, x_cl_tup, x_cl0, x_cl1, x_cl_lst, x_setIx, x_setIx1, x_setIx2, x_callI, x_callI1, x_callI2, x_callI3, x_take0, x_take1, x_take2, x_put0, x_put1, x_cFI, x_cRI1, x_cRI2, x_outR, x_outR1, x_out1, x_out2, x_par, x_par1, x_sort, x_sort1, x_sort2, x_io2, x_io4, vIsB, x_pop, x_lr, x_lr1, x_clr, x_clr1, x_clrE, x_clrE1, x_pop1, x_pop2, x_ins, x_ins1, x_ins2, List.all_cons, List.all_nil, Option.isSome_some, Option.map_some, List.getD_cons_zero, List.getD_cons_succ, List.set_cons_zero, List.set_cons_succ, List.map_cons, List.map_nil, List.replicate_zero, List.replicate_succ, List.length_cons, List.length_nil, List.cons_append, List.nil_append, Option.bind_some, if_true, if_false, Bool.false_eq_true, Nat.reduceSub, Nat.reduceAdd, Nat.reduceLeDiff, Nat.reduceLT, vAdd, vSub, vLt, vLe, vGt, vGe, vNeg, vEq, vNe, vEq2, vNe2, vMod, vDiv, vMul, vPow, Int.reduceToNat, vIx0, vIx1, vLenT, vLenC, vLenL, reduceIte, decide_true, decide_false, Bool.not_true, Bool.not_false, beq_self_eq_true, Bool.and_true, Bool.true_and, Bool.and_self, Bool.and_false, Bool.false_and, fz, fr, f3, f4, f1, cl, z1]) ns [] none (by simpa using hl) (gd_nil ws) hr'
    have ew : w__law_worths_1 [some (.lst false (ns.map Nd.d)), some (.lst false (bs.map spD)), some (.int g), some (.lst true []), none] = .nx [some (.lst false (ns.map Nd.d)), some (.lst false (bs.map spD)), some (.int g), some (.lst true ((runW bs g ns []).map spD)), x'] := by
      show sFor (iL (eVar 0)) (gN 4) (sApp 3 (eCallZ f__law_forth (zaCons (zVar 4) (zaCons (zVar 3) (zaCons (zVar 1) (zaCons (zVar 2) zaNil)))))) _ = _
      rw [x_for, eI, x_s1]; exact e
    exact (cF_ok (b := m__law_worths) (n := 3) (N := 5) (τ0 := [some (.lst false (ns.map Nd.d)), some (.lst false (bs.map spD)), some (.int g), none, none]) rfl rfl (x_seq_ok (τ1 := [some (.lst false (ns.map Nd.d)), some (.lst false (bs.map spD)), some (.int g), some (.lst true []), none]) rfl (x_seq_ok ew rfl))).trans rfl
/-! all slopes -/
def runS (ss : List (Int × Int)) (g : Int) (m : Nat) : List Nd → List (List (Int × Int)) → List (List (Int × Int))
  | [], md => md
  | n :: r, md => runS ss g m r (md ++ [rowW ss md g m n])
theorem runS_len (ss : List (Int × Int)) (g : Int) (m : Nat) : ∀ (r : List Nd) (md : List (List (Int × Int))), (runS ss g m r md).length = md.length + r.length
  | [], md => rfl
  | n :: r, md => by
    show (runS ss g m r _).length = _
    rw [runS_len ss g m r, List.length_append, List.length_cons, List.length_nil, List.length_cons]; omega
theorem fz_row (r : List (Int × Int)) (b : Bool) : freeze (rwD b r) = rwD false r := by
  cases b with
  | false => rfl
  | true => show D.lst false (freezeL (r.map spD)) = _; rw [fz_sp]; rfl
theorem fz_rows : ∀ (md : List (List (Int × Int))) (b : Bool), freezeL (md.map (rwD b)) = md.map (rwD false)
  | [], _ => rfl
  | r :: md, b => by rw [List.map_cons, x_fL1, fz_row, fz_rows md b]; rfl
theorem cl_spL : ∀ (r : List (Int × Int)), cleanL (r.map spD) = true
  | [] => rfl
  | p :: r => by rw [List.map_cons, x_cl1, cl_sp, cl_spL r]; rfl
theorem cl_row (r : List (Int × Int)) : clean (rwD true r) = true := by
  show clean (D.lst true (r.map spD)) = true
  rw [x_cl_lst, cl_spL]
theorem gs_nil (m : Nat) (ws : List Int) : Gs m ws [] := ⟨fun k p h => by simp at h⟩
theorem gs_step {Mi : Int} {m : Nat} {ns : List Nd} {ws : List Int} (hN : Net Mi ns ws) {ss : List (Int × Int)} {made : List (List (Int × Int))} (hs : Gv ws ss) (hsl : made.length ≤ ss.length) (hm : Gs m ws made) {n : Nd} (hn : ns[made.length]? = some n) {g : Int} (g1 : 1 ≤ g) (g2 : g ≤ 1000000) : Gs m ws (made ++ [rowW ss made g m n]) := ⟨fun k r hr => by
  by_cases z : k < made.length
  · rw [List.getElem?_append_left z] at hr; exact hm.g k r hr
  · have e : k = made.length := by
      have := (List.getElem?_eq_some_iff.mp hr).1
      simp at this; omega
    subst e
    have : r = rowW ss made g m n := by simpa using hr.symm
    subst this
    refine ⟨by simp [rowW], fun p hp => ?_⟩
    unfold rowW at hp
    obtain ⟨q, hq, rfl⟩ := List.mem_map.mp hp
    have := List.mem_range.mp hq
    have hh := slW_good hN hs hsl hm hn g1 g2 (k := ((q : Nat) : Int)) (by omega) (by omega)
    obtain ⟨_, hw, _, _⟩ := hN.nd _ _ hn
    rw [List.getD_eq_getElem?_getD, hw]
    exact hh⟩
/-- a loop over the nodes that makes the rows -/
theorem loopS {Mi : Int} {m : Nat} {ns : List Nd} {ws : List Int} (hN : Net Mi ns ws) {ss : List (Int × Int)} (hs : Gv ws ss) (hsl : ss.length = ns.length) {g : Int} (g1 : 1 ≤ g) (g2 : g ≤ 1000000) {E : List D → Option D → Bn.Env} {gt : D → Bn.Env → Option Bn.Env} {b : MS} (hg : ∀ (md : List (List (Int × Int))) (n : Nd) (x : Option D), gt n.d (E (md.map (rwD true)) x) = some (E (md.map (rwD true)) (some n.d)))
    (hbd : ∀ (md : List (List (Int × Int))) (n : Nd), md.length ≤ 1000 → Gs m ws md → ns[md.length]? = some n → b (E (md.map (rwD true)) (some n.d)) = .nx (E ((md ++ [rowW ss md g m n]).map (rwD true)) (some n.d))) :
    ∀ (r : List Nd) (md : List (List (Int × Int))) (x : Option D), md.length + r.length ≤ 1000 → Gs m ws md → (∀ (k : Nat) (n : Nd), r[k]? = some n → ns[md.length + k]? = some n) → ∃ x', forL gt b (r.map Nd.d) (E (md.map (rwD true)) x) = .nx (E ((runS ss g m r md).map (rwD true)) x') ∧ Gs m ws (runS ss g m r md)
  | [], md, x, _, h, _ => ⟨x, rfl, h⟩
  | n :: r, md, x, hl, h, hr => by
    rw [List.length_cons] at hl
    have hn := hr 0 n rfl
    have hk := (List.getElem?_eq_some_iff.mp hn).1
    obtain ⟨x', e, k⟩ := loopS hN hs hsl g1 g2 hg hbd r (md ++ [rowW ss md g m n]) (some n.d) (by rw [List.length_append, List.length_cons, List.length_nil]; omega) (gs_step hN hs (by omega) h hn g1 g2) fun k m hm => by
      rw [List.length_append, List.length_cons, List.length_nil, show md.length + (0 + 1) + k = md.length + (k + 1) by omega]
      exact hr (k + 1) m (by simpa using hm)
    refine ⟨x', ?_, k⟩
    rw [List.map_cons, x_fo1, hg]
    show forB (b (E (md.map (rwD true)) (some n.d))) _ = _
    rw [hbd md n (by omega) h hn, x_fo3]
    exact e
theorem slopes_ok {Mi : Int} {m : Nat} {ns : List Nd} {ws : List Int} (hN : Net Mi ns ws) (hMi : Mi.toNat = m) (M0 : 0 ≤ Mi) (M1 : Mi ≤ 100) {bs : List (Int × Int)} (hM : Mi = bs.length) (hb : ∀ p ∈ bs, SpB p) {g : Int} (g1 : 1 ≤ g) (g2 : g ≤ 1000000) (hl : ns.length ≤ 1000) :
    f_slopes [.lst false (ns.map Nd.d), .lst false (bs.map spD), .int g] = .ok (.lst true ((runS (runW bs g ns []) g m ns []).map (rwD true))) ∧ f__law_slopes [.lst false (ns.map Nd.d), .lst false ((runW bs g ns []).map spD), .int Mi, .int g] = .ok (.lst true ((runS (runW bs g ns []) g m ns []).map (rwD true))) ∧ Gs m ws (runS (runW bs g ns []) g m ns []) := by
  have ew := (worths_ok hN hM hb g1 g2 hl).1
  have hgd := runW_good hN hM hb g1 g2 ns [] (gd_nil ws) (fun k n h => by simpa using h)
  have hsl : (runW bs g ns []).length = ns.length := by rw [runW_len, List.length_nil, Nat.zero_add]
  have hs : Gv ws (runW bs g ns []) := gd_v hN (by omega) hgd
  generalize runW bs g ns [] = ss at *
  have hr' : ∀ (k : Nat) (n : Nd), ns[k]? = some n → ns[([] : List (List (Int × Int))).length + k]? = some n := fun k n h => by simpa using h
  have nodeOk : ∀ (md : List (List (Int × Int))) (n : Nd), ns[md.length]? = some n → n.B md.length Mi ∧ wt ws n ≤ 16 ∧ md.length ≤ ss.length := fun md n h => ⟨(hN.nd _ _ h).1, (hN.nd _ _ h).2.2.2, by have := (List.getElem?_eq_some_iff.mp h).1; omega⟩
  have ap : ∀ (md : List (List (Int × Int))) (r : List (Int × Int)), (md ++ [r]).map (rwD true) = md.map (rwD true) ++ [rwD true r] := fun md r => by rw [List.map_append]; rfl
  have lB : gLen [.lst false (bs.map spD)] = some (.int Mi) := by rw [vLenL, List.length_map, hM]
  have fS := fz_sp ss
  obtain ⟨x1, e1, hG⟩ := loopS hN hs hsl g1 g2 (m := m) (gt := gN 5) (E := fun L x => [some (.lst false (ns.map Nd.d)), some (.lst false (bs.map spD)), some (.int g), some (.lst true (ss.map spD)), some (.lst true L), x]) (b := sApp 4 (eCallZ f_slope_of (zaCons (zVar 5) (zaCons (zVar 3) (zaCons (zVar 4) (zaCons (zC' gLen (zaCons (zVar 1) zaNil)) (zaCons (zVar 2) zaNil))))))) (fun _ _ _ => rfl) (fun md n h1 h2 h3 => by
    obtain ⟨q1, q2, q3⟩ := nodeOk md n h3
    have es := slopeof_ok hN hMi M0 M1 hs (by omega) q3 h2 q1 q2 g1 g2
    have fM := fz_rows md true
    have z1 : (md.map (rwD true)).length < 1000000 := by rw [List.length_map]; omega
    have cl := cl_row (rowW ss md g m n)
    have fr := n.fr
    rw [ap]
    generalize rwD true (rowW ss md g m n) = R0 at *
    generalize md.map (rwD false) = Mf at *
    generalize md.map (rwD true) = Mt at *
    generalize ss.map spD = S at *
    generalize bs.map spD = B at *
    generalize n.d = nd at *
    simp only [x_seq, x_seq1, x_seq2, x_seq3, x_seq4, x_seq5, x_seq6, x_nil, x_if, x_if1, x_if2, x_if3, x_ret, x_ret1, x_ret2, x_ret3, x_retN, x_asg, x_asg1, x_asg2, x_asg3, x_asg4, x_asg5, x_gN, x_drop, x_drop1, x_drop2, x_bk, x_ct, x_raise, x_tZ, x_tZ1, x_tZ2, x_tE, x_tE1, x_tE2, x_tE3, x_tAnd, x_tAnd1, x_tAnd2, x_tAnd3, x_tOr, x_tOr1, x_tOr2, x_tOr3, x_tNot, x_tNot1, x_tNot2, x_tNot3, x_tTrue, x_z2, x_z21, x_z1, x_z11, x_zC, x_zC1, x_za, x_za1, x_za0, x_zV, x_zK, x_ch, x_ch1, x_ch2, x_eZ, x_eZ1, x_eZ2, x_eV, x_eV1, x_eM, x_eM1, x_b1, x_b2, x_b3, x_s1, x_s2, x_s3, x_oO, x_oO2, x_e2, x_e1, x_eC, x_aN, x_aC, x_tup, x_lst, x_call, x_oC1, x_oC2, x_call0, x_call01, x_eAnd, x_eAnd1, x_eOr, x_eOr1, x_eNot, x_eNot1, x_eIf, x_eIf1, x_fz_int, x_fr_int, x_fz_bl, x_fr_bl, x_fz_str, x_fr_str, x_fz_ty, x_fr_ty, x_fz_tup, x_fr_tup, x_fz_cst, x_fr_cst, x_fz_lst_false, x_fr_lst_false, x_fz_non, x_fr_non, x_fz_lt, x_fr_lt, x_fL0, x_fL1, x_cF, x_cR1, x_cR2, x_cR3, x_iL, x_iL1, x_iT, x_iT1, x_iS, x_iS1, x_iR1, x_iR11, x_iR2, x_iR21, x_iE, x_iE1, x_iV, x_iV1, x_iZ, x_iZ1, x_for, x_fo0, x_fo1, x_fo2, x_fo3, x_fo4, x_fo5, x_fo6, x_fo7, x_gT, x_gC, x_gC0, x_try, x_try1, x_try2, x_try3, x_try4, x_try5, x_nx1, x_nx2, x_try6, x_try7, x_nx3, x_nx4, x_app, x_app1, x_app2, x_lc, x_lcE, x_lc0, x_lc1, x_lcG, x_w0, x_w1, vMinL4, vMaxL4, vAll3, vAny3, vAll4, vAny4, x_wh1, x_wh2, x_wh0, x_abs, vI_ii, vI_ib, vI_it, vI_il, vI_is, vI_bb, vI_bi, vI_tt, vI_tl, vI_ti, vI_ll, vI_lt, vI_ss, vEqB, vNeB, x_ta, x_ta1, x_ta2, x_ta3, x_ta4, x_ta5, x_is, nc_0, nc_1, nc_2, nc_3, nc_4, nc_5, nc_6, nc_7, nc_8, nc_9, nc_10, nc_11, vMax2, vMin2, vIsN0, vIsN1, vNotN0, vNotN1, vIsN2, vNotN2, x_lo, x_lo1, x_lo2, vAll2, vAny2, x_sl, x_sl1, x_sl2, x_pn, x_ps, x_ps1, x_cutL, x_cutC, vEqS, vNeS, x_fz_obj, x_fr_obj, x_make, x_meth, x_meth2, x_meth3, x_isO, x_isO1, x_cat, x_cat1, x_methZ, x_methZ2, x_methZ3, x_callZ, x_callZ1, x_lend1, x_lend2, x_cl_int, x_cl_bl, x_cl_str, x_cl_non, x_cl_tup, x_cl0, x_cl1, x_cl_lst, x_setIx, x_setIx1, x_setIx2, x_callI, x_callI1, x_callI2, x_callI3, x_take0, x_take1, x_take2, x_put0, x_put1, x_cFI, x_cRI1, x_cRI2, x_outR, x_outR1, x_out1, x_out2, x_par, x_par1, x_sort, x_sort1, x_sort2, x_io2, x_io4, vIsB, x_pop, x_lr, x_lr1, x_clr, x_clr1, x_clrE, x_clrE1, x_pop1, x_pop2, x_ins, x_ins1, x_ins2, List.all_cons, List.all_nil, Option.isSome_some, Option.map_some, List.getD_cons_zero, List.getD_cons_succ, List.set_cons_zero, List.set_cons_succ, List.map_cons, List.map_nil, List.replicate_zero, List.replicate_succ, List.length_cons, List.length_nil, List.cons_append, List.nil_append, Option.bind_some, if_true, if_false, Bool.false_eq_true, Nat.reduceSub, Nat.reduceAdd, Nat.reduceLeDiff, Nat.reduceLT, vAdd, vSub, vLt, vLe, vGt, vGe, vNeg, vEq, vNe, vEq2, vNe2, vMod, vDiv, vMul, vPow, Int.reduceToNat, vIx0, vIx1, vLenT, vLenC, vLenL, reduceIte, decide_true, decide_false, Bool.not_true, Bool.not_false, beq_self_eq_true, Bool.and_true, Bool.true_and, Bool.and_self, Bool.and_false, Bool.false_and, lB, fr, fS, fM, es, cl, z1]) ns [] none (by simpa using hl) (gs_nil m ws) hr'
  refine ⟨?_, ?_, hG⟩
  · have e2 : w_slopes_1 [some (.lst false (ns.map Nd.d)), some (.lst false (bs.map spD)), some (.int g), some (.lst true (ss.map spD)), some (.lst true []), none] = .nx [some (.lst false (ns.map Nd.d)), some (.lst false (bs.map spD)), some (.int g), some (.lst true (ss.map spD)), some (.lst true ((runS ss g m ns []).map (rwD true))), x1] := by
      show sFor (iL (eVar 0)) (gN 5) (sApp 4 (eCallZ f_slope_of (zaCons (zVar 5) (zaCons (zVar 3) (zaCons (zVar 4) (zaCons (zC' gLen (zaCons (zVar 1) zaNil)) (zaCons (zVar 2) zaNil))))))) _ = _
      rw [x_for, iL_var (es := ns.map Nd.d) rfl, x_s1]; exact e1
    have e3 : sAsg (eCall f_worths (aCons (eVar 0) (aCons (eVar 1) (aCons (eVar 2) aNil)))) (gN 3) [some (.lst false (ns.map Nd.d)), some (.lst false (bs.map spD)), some (.int g), none, none, none] = .nx [some (.lst false (ns.map Nd.d)), some (.lst false (bs.map spD)), some (.int g), some (.lst true (ss.map spD)), none, none] := by
      clear e1 e2 hG
      generalize ns.map Nd.d = S at *
      generalize ss.map spD = S2 at *
      generalize bs.map spD = B at *
      simp only [x_seq, x_seq1, x_seq2, x_seq3, x_seq4, x_seq5, x_seq6, x_nil, x_if, x_if1, x_if2, x_if3, x_ret, x_ret1, x_ret2, x_ret3, x_retN, x_asg, x_asg1, x_asg2, x_asg3, x_asg4, x_asg5, x_gN, x_drop, x_drop1, x_drop2, x_bk, x_ct, x_raise, x_tZ, x_tZ1, x_tZ2, x_tE, x_tE1, x_tE2, x_tE3, x_tAnd, x_tAnd1, x_tAnd2, x_tAnd3, x_tOr, x_tOr1, x_tOr2, x_tOr3, x_tNot, x_tNot1, x_tNot2, x_tNot3, x_tTrue, x_z2, x_z21, x_z1, x_z11, x_zC, x_zC1, x_za, x_za1, x_za0, x_zV, x_zK, x_ch, x_ch1, x_ch2, x_eZ, x_eZ1, x_eZ2, x_eV, x_eV1, x_eM, x_eM1, x_b1, x_b2, x_b3, x_s1, x_s2, x_s3, x_oO, x_oO2, x_e2, x_e1, x_eC, x_aN, x_aC, x_tup, x_lst, x_call, x_oC1, x_oC2, x_call0, x_call01, x_eAnd, x_eAnd1, x_eOr, x_eOr1, x_eNot, x_eNot1, x_eIf, x_eIf1, x_fz_int, x_fr_int, x_fz_bl, x_fr_bl, x_fz_str, x_fr_str, x_fz_ty, x_fr_ty, x_fz_tup, x_fr_tup, x_fz_cst, x_fr_cst, x_fz_lst_false, x_fr_lst_false, x_fz_non, x_fr_non, x_fz_lt, x_fr_lt, x_fL0, x_fL1, x_cF, x_cR1, x_cR2, x_cR3, x_iL, x_iL1, x_iT, x_iT1, x_iS, x_iS1, x_iR1, x_iR11, x_iR2, x_iR21, x_iE, x_iE1, x_iV, x_iV1, x_iZ, x_iZ1, x_for, x_fo0, x_fo1, x_fo2, x_fo3, x_fo4, x_fo5, x_fo6, x_fo7, x_gT, x_gC, x_gC0, x_try, x_try1, x_try2, x_try3, x_try4, x_try5, x_nx1, x_nx2, x_try6, x_try7, x_nx3, x_nx4, x_app, x_app1, x_app2, x_lc, x_lcE, x_lc0, x_lc1, x_lcG, x_w0, x_w1, vMinL4, vMaxL4, vAll3, vAny3, vAll4, vAny4, x_wh1, x_wh2, x_wh0, x_abs, vI_ii, vI_ib, vI_it, vI_il, vI_is, vI_bb, vI_bi, vI_tt, vI_tl, vI_ti, vI_ll, vI_lt, vI_ss, vEqB, vNeB, x_ta, x_ta1, x_ta2, x_ta3, x_ta4, x_ta5, x_is, nc_0, nc_1, nc_2, nc_3, nc_4, nc_5, nc_6, nc_7, nc_8, nc_9, nc_10, nc_11, vMax2, vMin2, vIsN0, vIsN1, vNotN0, vNotN1, vIsN2, vNotN2, x_lo, x_lo1, x_lo2, vAll2, vAny2, x_sl, x_sl1, x_sl2, x_pn, x_ps, x_ps1, x_cutL, x_cutC, vEqS, vNeS, x_fz_obj, x_fr_obj, x_make, x_meth, x_meth2, x_meth3, x_isO, x_isO1, x_cat, x_cat1, x_methZ, x_methZ2, x_methZ3, x_callZ, x_callZ1, x_lend1, x_lend2, x_cl_int, x_cl_bl, x_cl_str, x_cl_non, x_cl_tup, x_cl0, x_cl1, x_cl_lst, x_setIx, x_setIx1, x_setIx2, x_callI, x_callI1, x_callI2, x_callI3, x_take0, x_take1, x_take2, x_put0, x_put1, x_cFI, x_cRI1, x_cRI2, x_outR, x_outR1, x_out1, x_out2, x_par, x_par1, x_sort, x_sort1, x_sort2, x_io2, x_io4, vIsB, x_pop, x_lr, x_lr1, x_clr, x_clr1, x_clrE, x_clrE1, x_pop1, x_pop2, x_ins, x_ins1, x_ins2, List.all_cons, List.all_nil, Option.isSome_some, Option.map_some, List.getD_cons_zero, List.getD_cons_succ, List.set_cons_zero, List.set_cons_succ, List.map_cons, List.map_nil, List.replicate_zero, List.replicate_succ, List.length_cons, List.length_nil, List.cons_append, List.nil_append, Option.bind_some, if_true, if_false, Bool.false_eq_true, Nat.reduceSub, Nat.reduceAdd, Nat.reduceLeDiff, Nat.reduceLT, vAdd, vSub, vLt, vLe, vGt, vGe, vNeg, vEq, vNe, vEq2, vNe2, vMod, vDiv, vMul, vPow, Int.reduceToNat, vIx0, vIx1, vLenT, vLenC, vLenL, reduceIte, decide_true, decide_false, Bool.not_true, Bool.not_false, beq_self_eq_true, Bool.and_true, Bool.true_and, Bool.and_self, Bool.and_false, Bool.false_and, ew]
    exact (cF_ok (b := m_slopes) (n := 3) (N := 6) (τ0 := [some (.lst false (ns.map Nd.d)), some (.lst false (bs.map spD)), some (.int g), none, none, none]) rfl rfl (x_seq_ok e3 (x_seq_ok (τ1 := [some (.lst false (ns.map Nd.d)), some (.lst false (bs.map spD)), some (.int g), some (.lst true (ss.map spD)), some (.lst true []), none]) rfl (x_seq_ok e2 rfl)))).trans rfl
  · obtain ⟨x2, e2, _⟩ := loopS hN hs hsl g1 g2 (m := m) (gt := gN 5) (E := fun L x => [some (.lst false (ns.map Nd.d)), some (.lst false (ss.map spD)), some (.int Mi), some (.int g), some (.lst true L), x, none]) (b := sApp 4 c__law_slopes_1) (fun _ _ _ => rfl) (fun md n h1 h2 h3 => by
      obtain ⟨q1, q2, q3⟩ := nodeOk md n h3
      have fM := fz_rows md true
      have z1 : (md.map (rwD true)).length < 1000000 := by rw [List.length_map]; omega
      have fr := n.fr
      have ec : c__law_slopes_1 [some (.lst false (ns.map Nd.d)), some (.lst false (ss.map spD)), some (.int Mi), some (.int g), some (.lst true (md.map (rwD true))), some n.d, none] = .ok (rwD true (rowW ss md g m n)) [some (.lst false (ns.map Nd.d)), some (.lst false (ss.map spD)), some (.int Mi), some (.int g), some (.lst true (md.map (rwD true))), some n.d, none] := by
        show _ = R.ok (D.lst true ((rowW ss md g m n).map spD)) _
        rw [row_map]
        refine lc_rng (own := [6]) (i := 2) (fun k => spD (slW ss md g ((k : Nat) : Int) n)) rfl hMi M0 (by omega) rfl (fun k hk => ?_)
        have es := lslope_ok hN hMi M0 hs (by omega) q3 h2 q1 q2 g1 g2 (k := ((k : Nat) : Int)) (by omega) (by omega)
        have cl := cl_sp (slW ss md g ((k : Nat) : Int) n)
        refine ⟨_, [some (.lst false (ns.map Nd.d)), some (.lst false (ss.map spD)), some (.int Mi), some (.int g), some (.lst true (md.map (rwD true))), some n.d, some (.int (0 + ((k : Nat) : Int)))], x_gN, ?_, rfl⟩
        rw [Int.zero_add]
        generalize ((k : Nat) : Int) = kk at *
        generalize spD (slW ss md g kk n) = R0 at *
        generalize md.map (rwD false) = Mf at *
        generalize md.map (rwD true) = Mt at *
        generalize ss.map spD = S at *
        generalize ns.map Nd.d = S2 at *
        generalize n.d = nd at *
        simp only [x_seq, x_seq1, x_seq2, x_seq3, x_seq4, x_seq5, x_seq6, x_nil, x_if, x_if1, x_if2, x_if3, x_ret, x_ret1, x_ret2, x_ret3, x_retN, x_asg, x_asg1, x_asg2, x_asg3, x_asg4, x_asg5, x_gN, x_drop, x_drop1, x_drop2, x_bk, x_ct, x_raise, x_tZ, x_tZ1, x_tZ2, x_tE, x_tE1, x_tE2, x_tE3, x_tAnd, x_tAnd1, x_tAnd2, x_tAnd3, x_tOr, x_tOr1, x_tOr2, x_tOr3, x_tNot, x_tNot1, x_tNot2, x_tNot3, x_tTrue, x_z2, x_z21, x_z1, x_z11, x_zC, x_zC1, x_za, x_za1, x_za0, x_zV, x_zK, x_ch, x_ch1, x_ch2, x_eZ, x_eZ1, x_eZ2, x_eV, x_eV1, x_eM, x_eM1, x_b1, x_b2, x_b3, x_s1, x_s2, x_s3, x_oO, x_oO2, x_e2, x_e1, x_eC, x_aN, x_aC, x_tup, x_lst, x_call, x_oC1, x_oC2, x_call0, x_call01, x_eAnd, x_eAnd1, x_eOr, x_eOr1, x_eNot, x_eNot1, x_eIf, x_eIf1, x_fz_int, x_fr_int, x_fz_bl, x_fr_bl, x_fz_str, x_fr_str, x_fz_ty, x_fr_ty, x_fz_tup, x_fr_tup, x_fz_cst, x_fr_cst, x_fz_lst_false, x_fr_lst_false, x_fz_non, x_fr_non, x_fz_lt, x_fr_lt, x_fL0, x_fL1, x_cF, x_cR1, x_cR2, x_cR3, x_iL, x_iL1, x_iT, x_iT1, x_iS, x_iS1, x_iR1, x_iR11, x_iR2, x_iR21, x_iE, x_iE1, x_iV, x_iV1, x_iZ, x_iZ1, x_for, x_fo0, x_fo1, x_fo2, x_fo3, x_fo4, x_fo5, x_fo6, x_fo7, x_gT, x_gC, x_gC0, x_try, x_try1, x_try2, x_try3, x_try4, x_try5, x_nx1, x_nx2, x_try6, x_try7, x_nx3, x_nx4, x_app, x_app1, x_app2, x_lc, x_lcE, x_lc0, x_lc1, x_lcG, x_w0, x_w1, vMinL4, vMaxL4, vAll3, vAny3, vAll4, vAny4, x_wh1, x_wh2, x_wh0, x_abs, vI_ii, vI_ib, vI_it, vI_il, vI_is, vI_bb, vI_bi, vI_tt, vI_tl, vI_ti, vI_ll, vI_lt, vI_ss, vEqB, vNeB, x_ta, x_ta1, x_ta2, x_ta3, x_ta4, x_ta5, x_is, nc_0, nc_1, nc_2, nc_3, nc_4, nc_5, nc_6, nc_7, nc_8, nc_9, nc_10, nc_11, vMax2, vMin2, vIsN0, vIsN1, vNotN0, vNotN1, vIsN2, vNotN2, x_lo, x_lo1, x_lo2, vAll2, vAny2, x_sl, x_sl1, x_sl2, x_pn, x_ps, x_ps1, x_cutL, x_cutC, vEqS, vNeS, x_fz_obj, x_fr_obj, x_make, x_meth, x_meth2, x_meth3, x_isO, x_isO1, x_cat, x_cat1, x_methZ, x_methZ2, x_methZ3, x_callZ, x_callZ1, x_lend1, x_lend2, x_cl_int, x_cl_bl, x_cl_str, x_cl_non, x_cl_tup, x_cl0, x_cl1, x_cl_lst, x_setIx, x_setIx1, x_setIx2, x_callI, x_callI1, x_callI2, x_callI3, x_take0, x_take1, x_take2, x_put0, x_put1, x_cFI, x_cRI1, x_cRI2, x_outR, x_outR1, x_out1, x_out2, x_par, x_par1, x_sort, x_sort1, x_sort2, x_io2, x_io4, vIsB, x_pop, x_lr, x_lr1, x_clr, x_clr1, x_clrE, x_clrE1, x_pop1, x_pop2, x_ins, x_ins1, x_ins2, List.all_cons, List.all_nil, Option.isSome_some, Option.map_some, List.getD_cons_zero, List.getD_cons_succ, List.set_cons_zero, List.set_cons_succ, List.map_cons, List.map_nil, List.replicate_zero, List.replicate_succ, List.length_cons, List.length_nil, List.cons_append, List.nil_append, Option.bind_some, if_true, if_false, Bool.false_eq_true, Nat.reduceSub, Nat.reduceAdd, Nat.reduceLeDiff, Nat.reduceLT, vAdd, vSub, vLt, vLe, vGt, vGe, vNeg, vEq, vNe, vEq2, vNe2, vMod, vDiv, vMul, vPow, Int.reduceToNat, vIx0, vIx1, vLenT, vLenC, vLenL, reduceIte, decide_true, decide_false, Bool.not_true, Bool.not_false, beq_self_eq_true, Bool.and_true, Bool.true_and, Bool.and_self, Bool.and_false, Bool.false_and, fr, fS, fM, es, cl]
      rw [ap]
      generalize rwD true (rowW ss md g m n) = R0 at *
      generalize md.map (rwD true) = Mt at *
      generalize ss.map spD = S at *
      generalize ns.map Nd.d = S2 at *
      generalize n.d = nd at *
      generalize c__law_slopes_1 = cc at *
      simp only [x_seq, x_seq1, x_seq2, x_seq3, x_seq4, x_seq5, x_seq6, x_nil, x_if, x_if1, x_if2, x_if3, x_ret, x_ret1, x_ret2, x_ret3, x_retN, x_asg, x_asg1, x_asg2, x_asg3, x_asg4, x_asg5, x_gN, x_drop, x_drop1, x_drop2, x_bk, x_ct, x_raise, x_tZ, x_tZ1, x_tZ2, x_tE, x_tE1, x_tE2, x_tE3, x_tAnd, x_tAnd1, x_tAnd2, x_tAnd3, x_tOr, x_tOr1, x_tOr2, x_tOr3, x_tNot, x_tNot1, x_tNot2, x_tNot3, x_tTrue, x_z2, x_z21, x_z1, x_z11, x_zC, x_zC1, x_za, x_za1, x_za0, x_zV, x_zK, x_ch, x_ch1, x_ch2, x_eZ, x_eZ1, x_eZ2, x_eV, x_eV1, x_eM, x_eM1, x_b1, x_b2, x_b3, x_s1, x_s2, x_s3, x_oO, x_oO2, x_e2, x_e1, x_eC, x_aN, x_aC, x_tup, x_lst, x_call, x_oC1, x_oC2, x_call0, x_call01, x_eAnd, x_eAnd1, x_eOr, x_eOr1, x_eNot, x_eNot1, x_eIf, x_eIf1, x_fz_int, x_fr_int, x_fz_bl, x_fr_bl, x_fz_str, x_fr_str, x_fz_ty, x_fr_ty, x_fz_tup, x_fr_tup, x_fz_cst, x_fr_cst, x_fz_lst_false, x_fr_lst_false, x_fz_non, x_fr_non, x_fz_lt, x_fr_lt, x_fL0, x_fL1, x_cF, x_cR1, x_cR2, x_cR3, x_iL, x_iL1, x_iT, x_iT1, x_iS, x_iS1, x_iR1, x_iR11, x_iR2, x_iR21, x_iE, x_iE1, x_iV, x_iV1, x_iZ, x_iZ1, x_for, x_fo0, x_fo1, x_fo2, x_fo3, x_fo4, x_fo5, x_fo6, x_fo7, x_gT, x_gC, x_gC0, x_try, x_try1, x_try2, x_try3, x_try4, x_try5, x_nx1, x_nx2, x_try6, x_try7, x_nx3, x_nx4, x_app, x_app1, x_app2, x_lc, x_lcE, x_lc0, x_lc1, x_lcG, x_w0, x_w1, vMinL4, vMaxL4, vAll3, vAny3, vAll4, vAny4, x_wh1, x_wh2, x_wh0, x_abs, vI_ii, vI_ib, vI_it, vI_il, vI_is, vI_bb, vI_bi, vI_tt, vI_tl, vI_ti, vI_ll, vI_lt, vI_ss, vEqB, vNeB, x_ta, x_ta1, x_ta2, x_ta3, x_ta4, x_ta5, x_is, nc_0, nc_1, nc_2, nc_3, nc_4, nc_5, nc_6, nc_7, nc_8, nc_9, nc_10, nc_11, vMax2, vMin2, vIsN0, vIsN1, vNotN0, vNotN1, vIsN2, vNotN2, x_lo, x_lo1, x_lo2, vAll2, vAny2, x_sl, x_sl1, x_sl2, x_pn, x_ps, x_ps1, x_cutL, x_cutC, vEqS, vNeS, x_fz_obj, x_fr_obj, x_make, x_meth, x_meth2, x_meth3, x_isO, x_isO1, x_cat, x_cat1, x_methZ, x_methZ2, x_methZ3, x_callZ, x_callZ1, x_lend1, x_lend2, x_cl_int, x_cl_bl, x_cl_str, x_cl_non, x_cl_tup, x_cl0, x_cl1, x_cl_lst, x_setIx, x_setIx1, x_setIx2, x_callI, x_callI1, x_callI2, x_callI3, x_take0, x_take1, x_take2, x_put0, x_put1, x_cFI, x_cRI1, x_cRI2, x_outR, x_outR1, x_out1, x_out2, x_par, x_par1, x_sort, x_sort1, x_sort2, x_io2, x_io4, vIsB, x_pop, x_lr, x_lr1, x_clr, x_clr1, x_clrE, x_clrE1, x_pop1, x_pop2, x_ins, x_ins1, x_ins2, List.all_cons, List.all_nil, Option.isSome_some, Option.map_some, List.getD_cons_zero, List.getD_cons_succ, List.set_cons_zero, List.set_cons_succ, List.map_cons, List.map_nil, List.replicate_zero, List.replicate_succ, List.length_cons, List.length_nil, List.cons_append, List.nil_append, Option.bind_some, if_true, if_false, Bool.false_eq_true, Nat.reduceSub, Nat.reduceAdd, Nat.reduceLeDiff, Nat.reduceLT, vAdd, vSub, vLt, vLe, vGt, vGe, vNeg, vEq, vNe, vEq2, vNe2, vMod, vDiv, vMul, vPow, Int.reduceToNat, vIx0, vIx1, vLenT, vLenC, vLenL, reduceIte, decide_true, decide_false, Bool.not_true, Bool.not_false, beq_self_eq_true, Bool.and_true, Bool.true_and, Bool.and_self, Bool.and_false, Bool.false_and, ec, z1]) ns [] none (by simpa using hl) (gs_nil m ws) hr'
    have e3 : w__law_slopes_1 [some (.lst false (ns.map Nd.d)), some (.lst false (ss.map spD)), some (.int Mi), some (.int g), some (.lst true []), none, none] = .nx [some (.lst false (ns.map Nd.d)), some (.lst false (ss.map spD)), some (.int Mi), some (.int g), some (.lst true ((runS ss g m ns []).map (rwD true))), x2, none] := by
      show sFor (iL (eVar 0)) (gN 5) (sApp 4 c__law_slopes_1) _ = _
      rw [x_for, iL_var (es := ns.map Nd.d) rfl, x_s1]; exact e2
    exact (cF_ok (b := m__law_slopes) (n := 4) (N := 7) (τ0 := [some (.lst false (ns.map Nd.d)), some (.lst false (ss.map spD)), some (.int Mi), some (.int g), none, none, none]) rfl rfl (x_seq_ok (τ1 := [some (.lst false (ns.map Nd.d)), some (.lst false (ss.map spD)), some (.int Mi), some (.int g), some (.lst true []), none, none]) rfl (x_seq_ok e3 rfl))).trans rfl
theorem sp_right {es : List D} {items : List D} (h : All2 (fun _ e => ∃ p, e = spD p ∧ SpB p) items es) : ∃ ps : List (Int × Int), es = ps.map spD ∧ (∀ p ∈ ps, SpB p) ∧ ps.length = items.length := by
  induction items generalizing es with
  | nil => cases es with
    | nil => exact ⟨[], rfl, by simp, rfl⟩
    | cons _ _ => exact h.elim
  | cons d ds ih => cases es with
    | nil => exact h.elim
    | cons e es =>
      obtain ⟨⟨p, rfl, hp⟩, h2⟩ := h
      obtain ⟨ps, rfl, h3, h4⟩ := ih h2
      exact ⟨p :: ps, rfl, fun x hx => by rcases List.mem_cons.mp hx with rfl | hx; exact hp; exact h3 x hx, by rw [List.length_cons, List.length_cons, h4]⟩
/-! the law's check -/
theorem span1_ok {p : Int × Int} (h : p.1 ≤ p.2) : f__law_span [spD p] = .ok (.bl true) := by
  have h' : decide (p.1 ≤ p.2) = true := decide_eq_true h
  have i0 : gIx (spD p) (.int 0) = some (.int p.1) := vIx0 _ _
  have i1 : gIx (spD p) (.int 1) = some (.int p.2) := vIx1 _ _ _
  have hw : ∀ i : Int, f__law_whole [.int i] = .ok (.bl true) := fun i => by
    simp only [f__law_whole, m__law_whole, x_seq, x_seq1, x_seq2, x_seq3, x_seq4, x_seq5, x_seq6, x_nil, x_if, x_if1, x_if2, x_if3, x_ret, x_ret1, x_ret2, x_ret3, x_retN, x_asg, x_asg1, x_asg2, x_asg3, x_asg4, x_asg5, x_gN, x_drop, x_drop1, x_drop2, x_bk, x_ct, x_raise, x_tZ, x_tZ1, x_tZ2, x_tE, x_tE1, x_tE2, x_tE3, x_tAnd, x_tAnd1, x_tAnd2, x_tAnd3, x_tOr, x_tOr1, x_tOr2, x_tOr3, x_tNot, x_tNot1, x_tNot2, x_tNot3, x_tTrue, x_z2, x_z21, x_z1, x_z11, x_zC, x_zC1, x_za, x_za1, x_za0, x_zV, x_zK, x_ch, x_ch1, x_ch2, x_eZ, x_eZ1, x_eZ2, x_eV, x_eV1, x_eM, x_eM1, x_b1, x_b2, x_b3, x_s1, x_s2, x_s3, x_oO, x_oO2, x_e2, x_e1, x_eC, x_aN, x_aC, x_tup, x_lst, x_call, x_oC1, x_oC2, x_call0, x_call01, x_eAnd, x_eAnd1, x_eOr, x_eOr1, x_eNot, x_eNot1, x_eIf, x_eIf1, x_fz_int, x_fr_int, x_fz_bl, x_fr_bl, x_fz_str, x_fr_str, x_fz_ty, x_fr_ty, x_fz_tup, x_fr_tup, x_fz_cst, x_fr_cst, x_fz_lst_false, x_fr_lst_false, x_fz_non, x_fr_non, x_fz_lt, x_fr_lt, x_fL0, x_fL1, x_cF, x_cR1, x_cR2, x_cR3, x_iL, x_iL1, x_iT, x_iT1, x_iS, x_iS1, x_iR1, x_iR11, x_iR2, x_iR21, x_iE, x_iE1, x_iV, x_iV1, x_iZ, x_iZ1, x_for, x_fo0, x_fo1, x_fo2, x_fo3, x_fo4, x_fo5, x_fo6, x_fo7, x_gT, x_gC, x_gC0, x_try, x_try1, x_try2, x_try3, x_try4, x_try5, x_nx1, x_nx2, x_try6, x_try7, x_nx3, x_nx4, x_app, x_app1, x_app2, x_lc, x_lcE, x_lc0, x_lc1, x_lcG, x_w0, x_w1, vMinL4, vMaxL4, vAll3, vAny3, vAll4, vAny4, x_wh1, x_wh2, x_wh0, x_abs, vI_ii, vI_ib, vI_it, vI_il, vI_is, vI_bb, vI_bi, vI_tt, vI_tl, vI_ti, vI_ll, vI_lt, vI_ss, vEqB, vNeB, x_ta, x_ta1, x_ta2, x_ta3, x_ta4, x_ta5, x_is, nc_0, nc_1, nc_2, nc_3, nc_4, nc_5, nc_6, nc_7, nc_8, nc_9, nc_10, nc_11, vMax2, vMin2, vIsN0, vIsN1, vNotN0, vNotN1, vIsN2, vNotN2, x_lo, x_lo1, x_lo2, vAll2, vAny2, x_sl, x_sl1, x_sl2, x_pn, x_ps, x_ps1, x_cutL, x_cutC, vEqS, vNeS, x_fz_obj, x_fr_obj, x_make, x_meth, x_meth2, x_meth3, x_isO, x_isO1, x_cat, x_cat1, x_methZ, x_methZ2, x_methZ3, x_callZ, x_callZ1, x_lend1, x_lend2, x_cl_int, x_cl_bl, x_cl_str, x_cl_non, x_cl_tup, x_cl0, x_cl1, x_cl_lst, x_setIx, x_setIx1, x_setIx2, x_callI, x_callI1, x_callI2, x_callI3, x_take0, x_take1, x_take2, x_put0, x_put1, x_cFI, x_cRI1, x_cRI2, x_outR, x_outR1, x_out1, x_out2, x_par, x_par1, x_sort, x_sort1, x_sort2, x_io2, x_io4, vIsB, x_pop, x_lr, x_lr1, x_clr, x_clr1, x_clrE, x_clrE1, x_pop1, x_pop2, x_ins, x_ins1, x_ins2, List.all_cons, List.all_nil, Option.isSome_some, Option.map_some, List.getD_cons_zero, List.getD_cons_succ, List.set_cons_zero, List.set_cons_succ, List.map_cons, List.map_nil, List.replicate_zero, List.replicate_succ, List.length_cons, List.length_nil, List.cons_append, List.nil_append, Option.bind_some, if_true, if_false, Bool.false_eq_true, Nat.reduceSub, Nat.reduceAdd, Nat.reduceLeDiff, Nat.reduceLT, vAdd, vSub, vLt, vLe, vGt, vGe, vNeg, vEq, vNe, vEq2, vNe2, vMod, vDiv, vMul, vPow, Int.reduceToNat, vIx0, vIx1, vLenT, vLenC, vLenL, reduceIte, decide_true, decide_false, Bool.not_true, Bool.not_false, beq_self_eq_true, Bool.and_true, Bool.true_and, Bool.and_self, Bool.and_false, Bool.false_and]
  simp (disch := decide) only [spD, f__law_span, m__law_span, x_seq, x_seq1, x_seq2, x_seq3, x_seq4, x_seq5, x_seq6, x_nil, x_if, x_if1, x_if2, x_if3, x_ret, x_ret1, x_ret2, x_ret3, x_retN, x_asg, x_asg1, x_asg2, x_asg3, x_asg4, x_asg5, x_gN, x_drop, x_drop1, x_drop2, x_bk, x_ct, x_raise, x_tZ, x_tZ1, x_tZ2, x_tE, x_tE1, x_tE2, x_tE3, x_tAnd, x_tAnd1, x_tAnd2, x_tAnd3, x_tOr, x_tOr1, x_tOr2, x_tOr3, x_tNot, x_tNot1, x_tNot2, x_tNot3, x_tTrue, x_z2, x_z21, x_z1, x_z11, x_zC, x_zC1, x_za, x_za1, x_za0, x_zV, x_zK, x_ch, x_ch1, x_ch2, x_eZ, x_eZ1, x_eZ2, x_eV, x_eV1, x_eM, x_eM1, x_b1, x_b2, x_b3, x_s1, x_s2, x_s3, x_oO, x_oO2, x_e2, x_e1, x_eC, x_aN, x_aC, x_tup, x_lst, x_call, x_oC1, x_oC2, x_call0, x_call01, x_eAnd, x_eAnd1, x_eOr, x_eOr1, x_eNot, x_eNot1, x_eIf, x_eIf1, x_fz_int, x_fr_int, x_fz_bl, x_fr_bl, x_fz_str, x_fr_str, x_fz_ty, x_fr_ty, x_fz_tup, x_fr_tup, x_fz_cst, x_fr_cst, x_fz_lst_false, x_fr_lst_false, x_fz_non, x_fr_non, x_fz_lt, x_fr_lt, x_fL0, x_fL1, x_cF, x_cR1, x_cR2, x_cR3, x_iL, x_iL1, x_iT, x_iT1, x_iS, x_iS1, x_iR1, x_iR11, x_iR2, x_iR21, x_iE, x_iE1, x_iV, x_iV1, x_iZ, x_iZ1, x_for, x_fo0, x_fo1, x_fo2, x_fo3, x_fo4, x_fo5, x_fo6, x_fo7, x_gT, x_gC, x_gC0, x_try, x_try1, x_try2, x_try3, x_try4, x_try5, x_nx1, x_nx2, x_try6, x_try7, x_nx3, x_nx4, x_app, x_app1, x_app2, x_lc, x_lcE, x_lc0, x_lc1, x_lcG, x_w0, x_w1, vMinL4, vMaxL4, vAll3, vAny3, vAll4, vAny4, x_wh1, x_wh2, x_wh0, x_abs, vI_ii, vI_ib, vI_it, vI_il, vI_is, vI_bb, vI_bi, vI_tt, vI_tl, vI_ti, vI_ll, vI_lt, vI_ss, vEqB, vNeB, x_ta, x_ta1, x_ta2, x_ta3, x_ta4, x_ta5, x_is, nc_0, nc_1, nc_2, nc_3, nc_4, nc_5, nc_6, nc_7, nc_8, nc_9, nc_10, nc_11, vMax2, vMin2, vIsN0, vIsN1, vNotN0, vNotN1, vIsN2, vNotN2, x_lo, x_lo1, x_lo2, vAll2, vAny2, x_sl, x_sl1, x_sl2, x_pn, x_ps, x_ps1, x_cutL, x_cutC, vEqS, vNeS, x_fz_obj, x_fr_obj, x_make, x_meth, x_meth2, x_meth3, x_isO, x_isO1, x_cat, x_cat1, x_methZ, x_methZ2, x_methZ3, x_callZ, x_callZ1, x_lend1, x_lend2, x_cl_int, x_cl_bl, x_cl_str, x_cl_non, x_cl_tup, x_cl0, x_cl1, x_cl_lst, x_setIx, x_setIx1, x_setIx2, x_callI, x_callI1, x_callI2, x_callI3, x_take0, x_take1, x_take2, x_put0, x_put1, x_cFI, x_cRI1, x_cRI2, x_outR, x_outR1, x_out1, x_out2, x_par, x_par1, x_sort, x_sort1, x_sort2, x_io2, x_io4, vIsB, x_pop, x_lr, x_lr1, x_clr, x_clr1, x_clrE, x_clrE1, x_pop1, x_pop2, x_ins, x_ins1, x_ins2, List.all_cons, List.all_nil, Option.isSome_some, Option.map_some, List.getD_cons_zero, List.getD_cons_succ, List.set_cons_zero, List.set_cons_succ, List.map_cons, List.map_nil, List.replicate_zero, List.replicate_succ, List.length_cons, List.length_nil, List.cons_append, List.nil_append, Option.bind_some, if_true, if_false, Bool.false_eq_true, Nat.reduceSub, Nat.reduceAdd, Nat.reduceLeDiff, Nat.reduceLT, vAdd, vSub, vLt, vLe, vGt, vGe, vNeg, vEq, vNe, vEq2, vNe2, vMod, vDiv, vMul, vPow, Int.reduceToNat, vIx0, vIx1, vLenT, vLenC, vLenL, reduceIte, decide_true, decide_false, Bool.not_true, Bool.not_false, beq_self_eq_true, Bool.and_true, Bool.true_and, Bool.and_self, Bool.and_false, Bool.false_and, hw, h']
theorem spans1_ok {r : List (Int × Int)} {M : Int} (hM : (r.length : Int) = M) (h : ∀ p ∈ r, p.1 ≤ p.2) : f__law_spans [rwD false r, .int M] = .ok (.bl true) := by
  have lr : gLen [rwD false r] = some (.int M) := by show gLen [.lst false (r.map spD)] = _; rw [vLenL, List.length_map, hM]
  have isl : gIsi [rwD false r, .ty "list"] = some (.bl true) := vI_ll
  obtain ⟨τ', e, x, hx⟩ := for_inv (g := gN 2) (b := sIf (tNot (tE (eCall f__law_span (aCons (eVar 2) aNil)))) (sRet (eZ (zC (.bl false)))) sNil) (fun τ => ∃ x, τ = [some (rwD false r), some (.int M), x]) (r.map spD) [some (rwD false r), some (.int M), none] (fun d hd τ hI => by
    obtain ⟨x, rfl⟩ := hI
    obtain ⟨p, hp, rfl⟩ := List.mem_map.mp hd
    have es := span1_ok (h p hp)
    refine ⟨_, [some (rwD false r), some (.int M), some (spD p)], x_gN, .inl ?_, _, rfl⟩
    have f1 : isFz (spD p) = true := rfl
    have f2 : freeze (spD p) = spD p := rfl
    generalize spD p = P at *
    generalize rwD false r = RR at *
    simp only [x_seq, x_seq1, x_seq2, x_seq3, x_seq4, x_seq5, x_seq6, x_nil, x_if, x_if1, x_if2, x_if3, x_ret, x_ret1, x_ret2, x_ret3, x_retN, x_asg, x_asg1, x_asg2, x_asg3, x_asg4, x_asg5, x_gN, x_drop, x_drop1, x_drop2, x_bk, x_ct, x_raise, x_tZ, x_tZ1, x_tZ2, x_tE, x_tE1, x_tE2, x_tE3, x_tAnd, x_tAnd1, x_tAnd2, x_tAnd3, x_tOr, x_tOr1, x_tOr2, x_tOr3, x_tNot, x_tNot1, x_tNot2, x_tNot3, x_tTrue, x_z2, x_z21, x_z1, x_z11, x_zC, x_zC1, x_za, x_za1, x_za0, x_zV, x_zK, x_ch, x_ch1, x_ch2, x_eZ, x_eZ1, x_eZ2, x_eV, x_eV1, x_eM, x_eM1, x_b1, x_b2, x_b3, x_s1, x_s2, x_s3, x_oO, x_oO2, x_e2, x_e1, x_eC, x_aN, x_aC, x_tup, x_lst, x_call, x_oC1, x_oC2, x_call0, x_call01, x_eAnd, x_eAnd1, x_eOr, x_eOr1, x_eNot, x_eNot1, x_eIf, x_eIf1, x_fz_int, x_fr_int, x_fz_bl, x_fr_bl, x_fz_str, x_fr_str, x_fz_ty, x_fr_ty, x_fz_tup, x_fr_tup, x_fz_cst, x_fr_cst, x_fz_lst_false, x_fr_lst_false, x_fz_non, x_fr_non, x_fz_lt, x_fr_lt, x_fL0, x_fL1, x_cF, x_cR1, x_cR2, x_cR3, x_iL, x_iL1, x_iT, x_iT1, x_iS, x_iS1, x_iR1, x_iR11, x_iR2, x_iR21, x_iE, x_iE1, x_iV, x_iV1, x_iZ, x_iZ1, x_for, x_fo0, x_fo1, x_fo2, x_fo3, x_fo4, x_fo5, x_fo6, x_fo7, x_gT, x_gC, x_gC0, x_try, x_try1, x_try2, x_try3, x_try4, x_try5, x_nx1, x_nx2, x_try6, x_try7, x_nx3, x_nx4, x_app, x_app1, x_app2, x_lc, x_lcE, x_lc0, x_lc1, x_lcG, x_w0, x_w1, vMinL4, vMaxL4, vAll3, vAny3, vAll4, vAny4, x_wh1, x_wh2, x_wh0, x_abs, vI_ii, vI_ib, vI_it, vI_il, vI_is, vI_bb, vI_bi, vI_tt, vI_tl, vI_ti, vI_ll, vI_lt, vI_ss, vEqB, vNeB, x_ta, x_ta1, x_ta2, x_ta3, x_ta4, x_ta5, x_is, nc_0, nc_1, nc_2, nc_3, nc_4, nc_5, nc_6, nc_7, nc_8, nc_9, nc_10, nc_11, vMax2, vMin2, vIsN0, vIsN1, vNotN0, vNotN1, vIsN2, vNotN2, x_lo, x_lo1, x_lo2, vAll2, vAny2, x_sl, x_sl1, x_sl2, x_pn, x_ps, x_ps1, x_cutL, x_cutC, vEqS, vNeS, x_fz_obj, x_fr_obj, x_make, x_meth, x_meth2, x_meth3, x_isO, x_isO1, x_cat, x_cat1, x_methZ, x_methZ2, x_methZ3, x_callZ, x_callZ1, x_lend1, x_lend2, x_cl_int, x_cl_bl, x_cl_str, x_cl_non, x_cl_tup, x_cl0, x_cl1, x_cl_lst, x_setIx, x_setIx1, x_setIx2, x_callI, x_callI1, x_callI2, x_callI3, x_take0, x_take1, x_take2, x_put0, x_put1, x_cFI, x_cRI1, x_cRI2, x_outR, x_outR1, x_out1, x_out2, x_par, x_par1, x_sort, x_sort1, x_sort2, x_io2, x_io4, vIsB, x_pop, x_lr, x_lr1, x_clr, x_clr1, x_clrE, x_clrE1, x_pop1, x_pop2, x_ins, x_ins1, x_ins2, List.all_cons, List.all_nil, Option.isSome_some, Option.map_some, List.getD_cons_zero, List.getD_cons_succ, List.set_cons_zero, List.set_cons_succ, List.map_cons, List.map_nil, List.replicate_zero, List.replicate_succ, List.length_cons, List.length_nil, List.cons_append, List.nil_append, Option.bind_some, if_true, if_false, Bool.false_eq_true, Nat.reduceSub, Nat.reduceAdd, Nat.reduceLeDiff, Nat.reduceLT, vAdd, vSub, vLt, vLe, vGt, vGe, vNeg, vEq, vNe, vEq2, vNe2, vMod, vDiv, vMul, vPow, Int.reduceToNat, vIx0, vIx1, vLenT, vLenC, vLenL, reduceIte, decide_true, decide_false, Bool.not_true, Bool.not_false, beq_self_eq_true, Bool.and_true, Bool.true_and, Bool.and_self, Bool.and_false, Bool.false_and, f1, f2, es]) ⟨none, rfl⟩
  subst hx
  have ew : w__law_spans_1 [some (rwD false r), some (.int M), none] = .nx [some (rwD false r), some (.int M), x] := by
    show sFor (iL (eVar 0)) (gN 2) (sIf (tNot (tE (eCall f__law_span (aCons (eVar 2) aNil)))) (sRet (eZ (zC (.bl false)))) sNil) _ = _
    rw [x_for, iL_var (es := r.map spD) rfl, x_s1]; exact e
  generalize rwD false r = RR at *
  simp only [f__law_spans, m__law_spans, x_seq, x_seq1, x_seq2, x_seq3, x_seq4, x_seq5, x_seq6, x_nil, x_if, x_if1, x_if2, x_if3, x_ret, x_ret1, x_ret2, x_ret3, x_retN, x_asg, x_asg1, x_asg2, x_asg3, x_asg4, x_asg5, x_gN, x_drop, x_drop1, x_drop2, x_bk, x_ct, x_raise, x_tZ, x_tZ1, x_tZ2, x_tE, x_tE1, x_tE2, x_tE3, x_tAnd, x_tAnd1, x_tAnd2, x_tAnd3, x_tOr, x_tOr1, x_tOr2, x_tOr3, x_tNot, x_tNot1, x_tNot2, x_tNot3, x_tTrue, x_z2, x_z21, x_z1, x_z11, x_zC, x_zC1, x_za, x_za1, x_za0, x_zV, x_zK, x_ch, x_ch1, x_ch2, x_eZ, x_eZ1, x_eZ2, x_eV, x_eV1, x_eM, x_eM1, x_b1, x_b2, x_b3, x_s1, x_s2, x_s3, x_oO, x_oO2, x_e2, x_e1, x_eC, x_aN, x_aC, x_tup, x_lst, x_call, x_oC1, x_oC2, x_call0, x_call01, x_eAnd, x_eAnd1, x_eOr, x_eOr1, x_eNot, x_eNot1, x_eIf, x_eIf1, x_fz_int, x_fr_int, x_fz_bl, x_fr_bl, x_fz_str, x_fr_str, x_fz_ty, x_fr_ty, x_fz_tup, x_fr_tup, x_fz_cst, x_fr_cst, x_fz_lst_false, x_fr_lst_false, x_fz_non, x_fr_non, x_fz_lt, x_fr_lt, x_fL0, x_fL1, x_cF, x_cR1, x_cR2, x_cR3, x_iL, x_iL1, x_iT, x_iT1, x_iS, x_iS1, x_iR1, x_iR11, x_iR2, x_iR21, x_iE, x_iE1, x_iV, x_iV1, x_iZ, x_iZ1, x_for, x_fo0, x_fo1, x_fo2, x_fo3, x_fo4, x_fo5, x_fo6, x_fo7, x_gT, x_gC, x_gC0, x_try, x_try1, x_try2, x_try3, x_try4, x_try5, x_nx1, x_nx2, x_try6, x_try7, x_nx3, x_nx4, x_app, x_app1, x_app2, x_lc, x_lcE, x_lc0, x_lc1, x_lcG, x_w0, x_w1, vMinL4, vMaxL4, vAll3, vAny3, vAll4, vAny4, x_wh1, x_wh2, x_wh0, x_abs, vI_ii, vI_ib, vI_it, vI_il, vI_is, vI_bb, vI_bi, vI_tt, vI_tl, vI_ti, vI_ll, vI_lt, vI_ss, vEqB, vNeB, x_ta, x_ta1, x_ta2, x_ta3, x_ta4, x_ta5, x_is, nc_0, nc_1, nc_2, nc_3, nc_4, nc_5, nc_6, nc_7, nc_8, nc_9, nc_10, nc_11, vMax2, vMin2, vIsN0, vIsN1, vNotN0, vNotN1, vIsN2, vNotN2, x_lo, x_lo1, x_lo2, vAll2, vAny2, x_sl, x_sl1, x_sl2, x_pn, x_ps, x_ps1, x_cutL, x_cutC, vEqS, vNeS, x_fz_obj, x_fr_obj, x_make, x_meth, x_meth2, x_meth3, x_isO, x_isO1, x_cat, x_cat1, x_methZ, x_methZ2, x_methZ3, x_callZ, x_callZ1, x_lend1, x_lend2, x_cl_int, x_cl_bl, x_cl_str, x_cl_non, x_cl_tup, x_cl0, x_cl1, x_cl_lst, x_setIx, x_setIx1, x_setIx2, x_callI, x_callI1, x_callI2, x_callI3, x_take0, x_take1, x_take2, x_put0, x_put1, x_cFI, x_cRI1, x_cRI2, x_outR, x_outR1, x_out1, x_out2, x_par, x_par1, x_sort, x_sort1, x_sort2, x_io2, x_io4, vIsB, x_pop, x_lr, x_lr1, x_clr, x_clr1, x_clrE, x_clrE1, x_pop1, x_pop2, x_ins, x_ins1, x_ins2, List.all_cons, List.all_nil, Option.isSome_some, Option.map_some, List.getD_cons_zero, List.getD_cons_succ, List.set_cons_zero, List.set_cons_succ, List.map_cons, List.map_nil, List.replicate_zero, List.replicate_succ, List.length_cons, List.length_nil, List.cons_append, List.nil_append, Option.bind_some, if_true, if_false, Bool.false_eq_true, Nat.reduceSub, Nat.reduceAdd, Nat.reduceLeDiff, Nat.reduceLT, vAdd, vSub, vLt, vLe, vGt, vGe, vNeg, vEq, vNe, vEq2, vNe2, vMod, vDiv, vMul, vPow, Int.reduceToNat, vIx0, vIx1, vLenT, vLenC, vLenL, reduceIte, decide_true, decide_false, Bool.not_true, Bool.not_false, beq_self_eq_true, Bool.and_true, Bool.true_and, Bool.and_self, Bool.and_false, Bool.false_and, isl, lr, ew]
theorem rows_Ok (r : List (Int × Int)) (b : Bool) : Bn.Ok 2 (rwD b r) := sps_Ok r b
def b_lists : MS := sIf (tOr (tNot (tE (eCall f__law_spans (aCons (eZ (z2 gIx (zVar 0) (zVar 2))) (aCons (eZ (zC' gLen (zaCons (z2 gIx (zVar 1) (zVar 2)) zaNil))) aNil))))) (tZ (z2 gNe (z2 gIx (zVar 0) (zVar 2)) (z2 gIx (zVar 1) (zVar 2))))) (sRet (eZ (zC (.bl false)))) sNil
theorem lists_turn {RR : D} {MM : List D} {kk mm : Int} (ix : gIx (.lst false MM) (.int kk) = some RR) (es : f__law_spans [RR, .int mm] = .ok (.bl true)) (ne : gNe RR RR = some (.bl false)) (lr : gLen [RR] = some (.int mm)) (f1 : isFz RR = true) (f2 : freeze RR = RR) :
    b_lists [some (.lst false MM), some (.lst false MM), some (.int kk)] = .nx [some (.lst false MM), some (.lst false MM), some (.int kk)] := by
  simp only [b_lists, x_seq, x_seq1, x_seq2, x_seq3, x_seq4, x_seq5, x_seq6, x_nil, x_if, x_if1, x_if2, x_if3, x_ret, x_ret1, x_ret2, x_ret3, x_retN, x_asg, x_asg1, x_asg2, x_asg3, x_asg4, x_asg5, x_gN, x_drop, x_drop1, x_drop2, x_bk, x_ct, x_raise, x_tZ, x_tZ1, x_tZ2, x_tE, x_tE1, x_tE2, x_tE3, x_tAnd, x_tAnd1, x_tAnd2, x_tAnd3, x_tOr, x_tOr1, x_tOr2, x_tOr3, x_tNot, x_tNot1, x_tNot2, x_tNot3, x_tTrue, x_z2, x_z21, x_z1, x_z11, x_zC, x_zC1, x_za, x_za1, x_za0, x_zV, x_zK, x_ch, x_ch1, x_ch2, x_eZ, x_eZ1, x_eZ2, x_eV, x_eV1, x_eM, x_eM1, x_b1, x_b2, x_b3, x_s1, x_s2, x_s3, x_oO, x_oO2, x_e2, x_e1, x_eC, x_aN, x_aC, x_tup, x_lst, x_call, x_oC1, x_oC2, x_call0, x_call01, x_eAnd, x_eAnd1, x_eOr, x_eOr1, x_eNot, x_eNot1, x_eIf, x_eIf1, x_fz_int, x_fr_int, x_fz_bl, x_fr_bl, x_fz_str, x_fr_str, x_fz_ty, x_fr_ty, x_fz_tup, x_fr_tup, x_fz_cst, x_fr_cst, x_fz_lst_false, x_fr_lst_false, x_fz_non, x_fr_non, x_fz_lt, x_fr_lt, x_fL0, x_fL1, x_cF, x_cR1, x_cR2, x_cR3, x_iL, x_iL1, x_iT, x_iT1, x_iS, x_iS1, x_iR1, x_iR11, x_iR2, x_iR21, x_iE, x_iE1, x_iV, x_iV1, x_iZ, x_iZ1, x_for, x_fo0, x_fo1, x_fo2, x_fo3, x_fo4, x_fo5, x_fo6, x_fo7, x_gT, x_gC, x_gC0, x_try, x_try1, x_try2, x_try3, x_try4, x_try5, x_nx1, x_nx2, x_try6, x_try7, x_nx3, x_nx4, x_app, x_app1, x_app2, x_lc, x_lcE, x_lc0, x_lc1, x_lcG, x_w0, x_w1, vMinL4, vMaxL4, vAll3, vAny3, vAll4, vAny4, x_wh1, x_wh2, x_wh0, x_abs, vI_ii, vI_ib, vI_it, vI_il, vI_is, vI_bb, vI_bi, vI_tt, vI_tl, vI_ti, vI_ll, vI_lt, vI_ss, vEqB, vNeB, x_ta, x_ta1, x_ta2, x_ta3, x_ta4, x_ta5, x_is, nc_0, nc_1, nc_2, nc_3, nc_4, nc_5, nc_6, nc_7, nc_8, nc_9, nc_10, nc_11, vMax2, vMin2, vIsN0, vIsN1, vNotN0, vNotN1, vIsN2, vNotN2, x_lo, x_lo1, x_lo2, vAll2, vAny2, x_sl, x_sl1, x_sl2, x_pn, x_ps, x_ps1, x_cutL, x_cutC, vEqS, vNeS, x_fz_obj, x_fr_obj, x_make, x_meth, x_meth2, x_meth3, x_isO, x_isO1, x_cat, x_cat1, x_methZ, x_methZ2, x_methZ3, x_callZ, x_callZ1, x_lend1, x_lend2, x_cl_int, x_cl_bl, x_cl_str, x_cl_non, x_cl_tup, x_cl0, x_cl1, x_cl_lst, x_setIx, x_setIx1, x_setIx2, x_callI, x_callI1, x_callI2, x_callI3, x_take0, x_take1, x_take2, x_put0, x_put1, x_cFI, x_cRI1, x_cRI2, x_outR, x_outR1, x_out1, x_out2, x_par, x_par1, x_sort, x_sort1, x_sort2, x_io2, x_io4, vIsB, x_pop, x_lr, x_lr1, x_clr, x_clr1, x_clrE, x_clrE1, x_pop1, x_pop2, x_ins, x_ins1, x_ins2, List.all_cons, List.all_nil, Option.isSome_some, Option.map_some, List.getD_cons_zero, List.getD_cons_succ, List.set_cons_zero, List.set_cons_succ, List.map_cons, List.map_nil, List.replicate_zero, List.replicate_succ, List.length_cons, List.length_nil, List.cons_append, List.nil_append, Option.bind_some, if_true, if_false, Bool.false_eq_true, Nat.reduceSub, Nat.reduceAdd, Nat.reduceLeDiff, Nat.reduceLT, vAdd, vSub, vLt, vLe, vGt, vGe, vNeg, vEq, vNe, vEq2, vNe2, vMod, vDiv, vMul, vPow, Int.reduceToNat, vIx0, vIx1, vLenT, vLenC, vLenL, reduceIte, decide_true, decide_false, Bool.not_true, Bool.not_false, beq_self_eq_true, Bool.and_true, Bool.true_and, Bool.and_self, Bool.and_false, Bool.false_and, ix, es, ne, lr, f1, f2]
theorem lists_loop {m : Nat} {ws : List Int} {md : List (List (Int × Int))} (h : Gs m ws md) : ∃ x, forL (gN 2) b_lists (rangeD 0 md.length) [some (.lst false (md.map (rwD false))), some (.lst false (md.map (rwD false))), none] = .nx [some (.lst false (md.map (rwD false))), some (.lst false (md.map (rwD false))), x] := by
  obtain ⟨τ', e, x, hx⟩ := for_inv (g := gN 2) (b := b_lists) (fun τ => ∃ x, τ = [some (.lst false (md.map (rwD false))), some (.lst false (md.map (rwD false))), x]) (rangeD 0 md.length) [some (.lst false (md.map (rwD false))), some (.lst false (md.map (rwD false))), none] (fun d hd τ hI => by
    obtain ⟨x, rfl⟩ := hI
    obtain ⟨k, hk, rfl⟩ := mem_rangeD hd
    rw [Int.zero_add]
    have hg := h.g k (pr md ((k : Nat) : Int)) (by
      have := pr_get (L := md) (i := ((k : Nat) : Int)) (by omega) (by omega)
      rwa [Int.toNat_natCast] at this)
    have ix := ix_pr (made := md) (i := ((k : Nat) : Int)) (by omega) (by omega) false
    have es := spans1_ok (r := pr md ((k : Nat) : Int)) (M := ((m : Nat) : Int)) (by rw [hg.1]) (fun p hp => (hg.2 p hp).1)
    have ne : gNe (rwD false (pr md ((k : Nat) : Int))) (rwD false (pr md ((k : Nat) : Int))) = some (.bl false) := vNeX (rows_Ok _ _) (rows_Ok _ _) rfl
    have lr : gLen [rwD false (pr md ((k : Nat) : Int))] = some (.int ((m : Nat) : Int)) := by show gLen [.lst false ((pr md ((k : Nat) : Int)).map spD)] = _; rw [vLenL, List.length_map, hg.1]
    exact ⟨_, _, x_gN, .inl (lists_turn ix es ne lr rfl rfl), _, rfl⟩) ⟨none, rfl⟩
  subst hx
  exact ⟨x, e⟩
theorem lists_test {MM : List D} {N : Int} (ll : gLen [.lst false MM] = some (.int N)) (isl : gIsi [.lst false MM, .ty "list"] = some (.bl true)) : tOr (tNot (tZ (zC' gIsi (zaCons (zVar 0) (zaCons (zC (.ty "list")) zaNil))))) (tZ (z2 gNe (zC' gLen (zaCons (zVar 0) zaNil)) (zC' gLen (zaCons (zVar 1) zaNil)))) [some (.lst false MM), some (.lst false MM), none] = .ok false [some (.lst false MM), some (.lst false MM), none] := by
  simp only [x_seq, x_seq1, x_seq2, x_seq3, x_seq4, x_seq5, x_seq6, x_nil, x_if, x_if1, x_if2, x_if3, x_ret, x_ret1, x_ret2, x_ret3, x_retN, x_asg, x_asg1, x_asg2, x_asg3, x_asg4, x_asg5, x_gN, x_drop, x_drop1, x_drop2, x_bk, x_ct, x_raise, x_tZ, x_tZ1, x_tZ2, x_tE, x_tE1, x_tE2, x_tE3, x_tAnd, x_tAnd1, x_tAnd2, x_tAnd3, x_tOr, x_tOr1, x_tOr2, x_tOr3, x_tNot, x_tNot1, x_tNot2, x_tNot3, x_tTrue, x_z2, x_z21, x_z1, x_z11, x_zC, x_zC1, x_za, x_za1, x_za0, x_zV, x_zK, x_ch, x_ch1, x_ch2, x_eZ, x_eZ1, x_eZ2, x_eV, x_eV1, x_eM, x_eM1, x_b1, x_b2, x_b3, x_s1, x_s2, x_s3, x_oO, x_oO2, x_e2, x_e1, x_eC, x_aN, x_aC, x_tup, x_lst, x_call, x_oC1, x_oC2, x_call0, x_call01, x_eAnd, x_eAnd1, x_eOr, x_eOr1, x_eNot, x_eNot1, x_eIf, x_eIf1, x_fz_int, x_fr_int, x_fz_bl, x_fr_bl, x_fz_str, x_fr_str, x_fz_ty, x_fr_ty, x_fz_tup, x_fr_tup, x_fz_cst, x_fr_cst, x_fz_lst_false, x_fr_lst_false, x_fz_non, x_fr_non, x_fz_lt, x_fr_lt, x_fL0, x_fL1, x_cF, x_cR1, x_cR2, x_cR3, x_iL, x_iL1, x_iT, x_iT1, x_iS, x_iS1, x_iR1, x_iR11, x_iR2, x_iR21, x_iE, x_iE1, x_iV, x_iV1, x_iZ, x_iZ1, x_for, x_fo0, x_fo1, x_fo2, x_fo3, x_fo4, x_fo5, x_fo6, x_fo7, x_gT, x_gC, x_gC0, x_try, x_try1, x_try2, x_try3, x_try4, x_try5, x_nx1, x_nx2, x_try6, x_try7, x_nx3, x_nx4, x_app, x_app1, x_app2, x_lc, x_lcE, x_lc0, x_lc1, x_lcG, x_w0, x_w1, vMinL4, vMaxL4, vAll3, vAny3, vAll4, vAny4, x_wh1, x_wh2, x_wh0, x_abs, vI_ii, vI_ib, vI_it, vI_il, vI_is, vI_bb, vI_bi, vI_tt, vI_tl, vI_ti, vI_ll, vI_lt, vI_ss, vEqB, vNeB, x_ta, x_ta1, x_ta2, x_ta3, x_ta4, x_ta5, x_is, nc_0, nc_1, nc_2, nc_3, nc_4, nc_5, nc_6, nc_7, nc_8, nc_9, nc_10, nc_11, vMax2, vMin2, vIsN0, vIsN1, vNotN0, vNotN1, vIsN2, vNotN2, x_lo, x_lo1, x_lo2, vAll2, vAny2, x_sl, x_sl1, x_sl2, x_pn, x_ps, x_ps1, x_cutL, x_cutC, vEqS, vNeS, x_fz_obj, x_fr_obj, x_make, x_meth, x_meth2, x_meth3, x_isO, x_isO1, x_cat, x_cat1, x_methZ, x_methZ2, x_methZ3, x_callZ, x_callZ1, x_lend1, x_lend2, x_cl_int, x_cl_bl, x_cl_str, x_cl_non, x_cl_tup, x_cl0, x_cl1, x_cl_lst, x_setIx, x_setIx1, x_setIx2, x_callI, x_callI1, x_callI2, x_callI3, x_take0, x_take1, x_take2, x_put0, x_put1, x_cFI, x_cRI1, x_cRI2, x_outR, x_outR1, x_out1, x_out2, x_par, x_par1, x_sort, x_sort1, x_sort2, x_io2, x_io4, vIsB, x_pop, x_lr, x_lr1, x_clr, x_clr1, x_clrE, x_clrE1, x_pop1, x_pop2, x_ins, x_ins1, x_ins2, List.all_cons, List.all_nil, Option.isSome_some, Option.map_some, List.getD_cons_zero, List.getD_cons_succ, List.set_cons_zero, List.set_cons_succ, List.map_cons, List.map_nil, List.replicate_zero, List.replicate_succ, List.length_cons, List.length_nil, List.cons_append, List.nil_append, Option.bind_some, if_true, if_false, Bool.false_eq_true, Nat.reduceSub, Nat.reduceAdd, Nat.reduceLeDiff, Nat.reduceLT, vAdd, vSub, vLt, vLe, vGt, vGe, vNeg, vEq, vNe, vEq2, vNe2, vMod, vDiv, vMul, vPow, Int.reduceToNat, vIx0, vIx1, vLenT, vLenC, vLenL, reduceIte, decide_true, decide_false, Bool.not_true, Bool.not_false, beq_self_eq_true, Bool.and_true, Bool.true_and, Bool.and_self, Bool.and_false, Bool.false_and, isl, ll]
theorem lists_run {MM : List D} {N : Int} {x : Option D} (ll : gLen [.lst false MM] = some (.int N)) (ew : w__law_lists_1 [some (.lst false MM), some (.lst false MM), none] = .nx [some (.lst false MM), some (.lst false MM), x]) : f__law_lists [.lst false MM, .lst false MM] = .ok (.bl true) := by
  have isl : gIsi [.lst false MM, .ty "list"] = some (.bl true) := vI_ll
  have e1 := lists_test ll isl
  have e2 : sIf (tOr (tNot (tZ (zC' gIsi (zaCons (zVar 0) (zaCons (zC (.ty "list")) zaNil))))) (tZ (z2 gNe (zC' gLen (zaCons (zVar 0) zaNil)) (zC' gLen (zaCons (zVar 1) zaNil))))) (sRet (eZ (zC (.bl false)))) sNil [some (.lst false MM), some (.lst false MM), none] = .nx [some (.lst false MM), some (.lst false MM), none] := by
    rw [x_if, e1, x_if1, if_neg (by decide), x_nil]
  exact (cF_ok (b := m__law_lists) (n := 2) (N := 3) (τ0 := [some (.lst false MM), some (.lst false MM), none]) rfl rfl (x_seq_ok e2 (x_seq_ok ew rfl))).trans rfl
theorem lists_ok {m : Nat} {ws : List Int} {md : List (List (Int × Int))} (h : Gs m ws md) (hl : md.length ≤ 1000) : f__law_lists [.lst false (md.map (rwD false)), .lst false (md.map (rwD false))] = .ok (.bl true) := by
  obtain ⟨N, hN⟩ : ∃ N : Int, (md.length : Int) = N := ⟨_, rfl⟩
  have ll : gLen [.lst false (md.map (rwD false))] = some (.int N) := by rw [vLenL, List.length_map, hN]
  obtain ⟨x, e⟩ := lists_loop h
  refine lists_run ll (x := x) ?_
  obtain ⟨q, hq⟩ : ∃ q, md.length = q := ⟨_, rfl⟩
  rw [hq] at e hN hl
  generalize md.map (rwD false) = MM at *
  have er : aCons (eZ (zC' gLen (zaCons (zVar 1) zaNil))) aNil [some (.lst false MM), some (.lst false MM), none] = .ok [.int N] [some (.lst false MM), some (.lst false MM), none] := by
    simp only [x_seq, x_seq1, x_seq2, x_seq3, x_seq4, x_seq5, x_seq6, x_nil, x_if, x_if1, x_if2, x_if3, x_ret, x_ret1, x_ret2, x_ret3, x_retN, x_asg, x_asg1, x_asg2, x_asg3, x_asg4, x_asg5, x_gN, x_drop, x_drop1, x_drop2, x_bk, x_ct, x_raise, x_tZ, x_tZ1, x_tZ2, x_tE, x_tE1, x_tE2, x_tE3, x_tAnd, x_tAnd1, x_tAnd2, x_tAnd3, x_tOr, x_tOr1, x_tOr2, x_tOr3, x_tNot, x_tNot1, x_tNot2, x_tNot3, x_tTrue, x_z2, x_z21, x_z1, x_z11, x_zC, x_zC1, x_za, x_za1, x_za0, x_zV, x_zK, x_ch, x_ch1, x_ch2, x_eZ, x_eZ1, x_eZ2, x_eV, x_eV1, x_eM, x_eM1, x_b1, x_b2, x_b3, x_s1, x_s2, x_s3, x_oO, x_oO2, x_e2, x_e1, x_eC, x_aN, x_aC, x_tup, x_lst, x_call, x_oC1, x_oC2, x_call0, x_call01, x_eAnd, x_eAnd1, x_eOr, x_eOr1, x_eNot, x_eNot1, x_eIf, x_eIf1, x_fz_int, x_fr_int, x_fz_bl, x_fr_bl, x_fz_str, x_fr_str, x_fz_ty, x_fr_ty, x_fz_tup, x_fr_tup, x_fz_cst, x_fr_cst, x_fz_lst_false, x_fr_lst_false, x_fz_non, x_fr_non, x_fz_lt, x_fr_lt, x_fL0, x_fL1, x_cF, x_cR1, x_cR2, x_cR3, x_iL, x_iL1, x_iT, x_iT1, x_iS, x_iS1, x_iR1, x_iR11, x_iR2, x_iR21, x_iE, x_iE1, x_iV, x_iV1, x_iZ, x_iZ1, x_for, x_fo0, x_fo1, x_fo2, x_fo3, x_fo4, x_fo5, x_fo6, x_fo7, x_gT, x_gC, x_gC0, x_try, x_try1, x_try2, x_try3, x_try4, x_try5, x_nx1, x_nx2, x_try6, x_try7, x_nx3, x_nx4, x_app, x_app1, x_app2, x_lc, x_lcE, x_lc0, x_lc1, x_lcG, x_w0, x_w1, vMinL4, vMaxL4, vAll3, vAny3, vAll4, vAny4, x_wh1, x_wh2, x_wh0, x_abs, vI_ii, vI_ib, vI_it, vI_il, vI_is, vI_bb, vI_bi, vI_tt, vI_tl, vI_ti, vI_ll, vI_lt, vI_ss, vEqB, vNeB, x_ta, x_ta1, x_ta2, x_ta3, x_ta4, x_ta5, x_is, nc_0, nc_1, nc_2, nc_3, nc_4, nc_5, nc_6, nc_7, nc_8, nc_9, nc_10, nc_11, vMax2, vMin2, vIsN0, vIsN1, vNotN0, vNotN1, vIsN2, vNotN2, x_lo, x_lo1, x_lo2, vAll2, vAny2, x_sl, x_sl1, x_sl2, x_pn, x_ps, x_ps1, x_cutL, x_cutC, vEqS, vNeS, x_fz_obj, x_fr_obj, x_make, x_meth, x_meth2, x_meth3, x_isO, x_isO1, x_cat, x_cat1, x_methZ, x_methZ2, x_methZ3, x_callZ, x_callZ1, x_lend1, x_lend2, x_cl_int, x_cl_bl, x_cl_str, x_cl_non, x_cl_tup, x_cl0, x_cl1, x_cl_lst, x_setIx, x_setIx1, x_setIx2, x_callI, x_callI1, x_callI2, x_callI3, x_take0, x_take1, x_take2, x_put0, x_put1, x_cFI, x_cRI1, x_cRI2, x_outR, x_outR1, x_out1, x_out2, x_par, x_par1, x_sort, x_sort1, x_sort2, x_io2, x_io4, vIsB, x_pop, x_lr, x_lr1, x_clr, x_clr1, x_clrE, x_clrE1, x_pop1, x_pop2, x_ins, x_ins1, x_ins2, List.all_cons, List.all_nil, Option.isSome_some, Option.map_some, List.getD_cons_zero, List.getD_cons_succ, List.set_cons_zero, List.set_cons_succ, List.map_cons, List.map_nil, List.replicate_zero, List.replicate_succ, List.length_cons, List.length_nil, List.cons_append, List.nil_append, Option.bind_some, if_true, if_false, Bool.false_eq_true, Nat.reduceSub, Nat.reduceAdd, Nat.reduceLeDiff, Nat.reduceLT, vAdd, vSub, vLt, vLe, vGt, vGe, vNeg, vEq, vNe, vEq2, vNe2, vMod, vDiv, vMul, vPow, Int.reduceToNat, vIx0, vIx1, vLenT, vLenC, vLenL, reduceIte, decide_true, decide_false, Bool.not_true, Bool.not_false, beq_self_eq_true, Bool.and_true, Bool.true_and, Bool.and_self, Bool.and_false, Bool.false_and, ll]
  have e2 := x_for_range (g := gN 2) (b := b_lists) (N := N) (n := q) er (by omega) (by omega) (by omega)
  exact e2.trans e
/-! the nodes at the beginning -/
theorem net_unk {M : Int} {ns : List Nd} (h : ∀ n ∈ ns, ∃ j : Int, n = .unk j ∧ 0 ≤ j ∧ j < M) : Net M ns (List.replicate ns.length 1) := by
  refine ⟨by simp, fun k n hn => ?_⟩
  have hk := (List.getElem?_eq_some_iff.mp hn).1
  obtain ⟨j, rfl, j0, j1⟩ := h n (List.mem_of_getElem? hn)
  refine ⟨⟨j0, j1⟩, ?_, Int.le_refl 1, by show (1 : Int) ≤ 16; decide⟩
  rw [List.getElem?_replicate, if_pos hk]; rfl
theorem first_ok (c : Int) {M : Int} (m1 : 1 ≤ M) (m4 : M ≤ 4) : ∃ ns : List Nd, f__law_first [.int c, .int M] = .ok (.lst true (ns.map Nd.d)) ∧ (∀ n ∈ ns, ∃ j : Int, n = .unk j ∧ 0 ≤ j ∧ j < M) ∧ 1 ≤ ns.length ∧ ns.length ≤ 4 := by
  obtain ⟨C, c1, c2, e1⟩ : ∃ C : Int, 1 ≤ C ∧ C ≤ M ∧ sIf (tAnd (tZ (z2 gEq (z2 gMod (zVar 0) (zC (.int 5))) (zC (.int 1)))) (tZ (z2 gGt (zVar 1) (zC (.int 1))))) (sAsg (eZ (z2 gSub (zVar 1) (zC (.int 1)))) (gN 2)) sNil [some (.int c), some (.int M), some (.int M), none, none] = .nx [some (.int c), some (.int M), some (.int C), none, none] := by
    cases h1 : (c % 5 == 1) with
    | false => exact ⟨M, m1, Int.le_refl _, by simp (disch := decide) only [x_seq, x_seq1, x_seq2, x_seq3, x_seq4, x_seq5, x_seq6, x_nil, x_if, x_if1, x_if2, x_if3, x_ret, x_ret1, x_ret2, x_ret3, x_retN, x_asg, x_asg1, x_asg2, x_asg3, x_asg4, x_asg5, x_gN, x_drop, x_drop1, x_drop2, x_bk, x_ct, x_raise, x_tZ, x_tZ1, x_tZ2, x_tE, x_tE1, x_tE2, x_tE3, x_tAnd, x_tAnd1, x_tAnd2, x_tAnd3, x_tOr, x_tOr1, x_tOr2, x_tOr3, x_tNot, x_tNot1, x_tNot2, x_tNot3, x_tTrue, x_z2, x_z21, x_z1, x_z11, x_zC, x_zC1, x_za, x_za1, x_za0, x_zV, x_zK, x_ch, x_ch1, x_ch2, x_eZ, x_eZ1, x_eZ2, x_eV, x_eV1, x_eM, x_eM1, x_b1, x_b2, x_b3, x_s1, x_s2, x_s3, x_oO, x_oO2, x_e2, x_e1, x_eC, x_aN, x_aC, x_tup, x_lst, x_call, x_oC1, x_oC2, x_call0, x_call01, x_eAnd, x_eAnd1, x_eOr, x_eOr1, x_eNot, x_eNot1, x_eIf, x_eIf1, x_fz_int, x_fr_int, x_fz_bl, x_fr_bl, x_fz_str, x_fr_str, x_fz_ty, x_fr_ty, x_fz_tup, x_fr_tup, x_fz_cst, x_fr_cst, x_fz_lst_false, x_fr_lst_false, x_fz_non, x_fr_non, x_fz_lt, x_fr_lt, x_fL0, x_fL1, x_cF, x_cR1, x_cR2, x_cR3, x_iL, x_iL1, x_iT, x_iT1, x_iS, x_iS1, x_iR1, x_iR11, x_iR2, x_iR21, x_iE, x_iE1, x_iV, x_iV1, x_iZ, x_iZ1, x_for, x_fo0, x_fo1, x_fo2, x_fo3, x_fo4, x_fo5, x_fo6, x_fo7, x_gT, x_gC, x_gC0, x_try, x_try1, x_try2, x_try3, x_try4, x_try5, x_nx1, x_nx2, x_try6, x_try7, x_nx3, x_nx4, x_app, x_app1, x_app2, x_lc, x_lcE, x_lc0, x_lc1, x_lcG, x_w0, x_w1, vMinL4, vMaxL4, vAll3, vAny3, vAll4, vAny4, x_wh1, x_wh2, x_wh0, x_abs, vI_ii, vI_ib, vI_it, vI_il, vI_is, vI_bb, vI_bi, vI_tt, vI_tl, vI_ti, vI_ll, vI_lt, vI_ss, vEqB, vNeB, x_ta, x_ta1, x_ta2, x_ta3, x_ta4, x_ta5, x_is, nc_0, nc_1, nc_2, nc_3, nc_4, nc_5, nc_6, nc_7, nc_8, nc_9, nc_10, nc_11, vMax2, vMin2, vIsN0, vIsN1, vNotN0, vNotN1, vIsN2, vNotN2, x_lo, x_lo1, x_lo2, vAll2, vAny2, x_sl, x_sl1, x_sl2, x_pn, x_ps, x_ps1, x_cutL, x_cutC, vEqS, vNeS, x_fz_obj, x_fr_obj, x_make, x_meth, x_meth2, x_meth3, x_isO, x_isO1, x_cat, x_cat1, x_methZ, x_methZ2, x_methZ3, x_callZ, x_callZ1, x_lend1, x_lend2, x_cl_int, x_cl_bl, x_cl_str, x_cl_non, x_cl_tup, x_cl0, x_cl1, x_cl_lst, x_setIx, x_setIx1, x_setIx2, x_callI, x_callI1, x_callI2, x_callI3, x_take0, x_take1, x_take2, x_put0, x_put1, x_cFI, x_cRI1, x_cRI2, x_outR, x_outR1, x_out1, x_out2, x_par, x_par1, x_sort, x_sort1, x_sort2, x_io2, x_io4, vIsB, x_pop, x_lr, x_lr1, x_clr, x_clr1, x_clrE, x_clrE1, x_pop1, x_pop2, x_ins, x_ins1, x_ins2, List.all_cons, List.all_nil, Option.isSome_some, Option.map_some, List.getD_cons_zero, List.getD_cons_succ, List.set_cons_zero, List.set_cons_succ, List.map_cons, List.map_nil, List.replicate_zero, List.replicate_succ, List.length_cons, List.length_nil, List.cons_append, List.nil_append, Option.bind_some, if_true, if_false, Bool.false_eq_true, Nat.reduceSub, Nat.reduceAdd, Nat.reduceLeDiff, Nat.reduceLT, vAdd, vSub, vLt, vLe, vGt, vGe, vNeg, vEq, vNe, vEq2, vNe2, vMod, vDiv, vMul, vPow, Int.reduceToNat, vIx0, vIx1, vLenT, vLenC, vLenL, reduceIte, decide_true, decide_false, Bool.not_true, Bool.not_false, beq_self_eq_true, Bool.and_true, Bool.true_and, Bool.and_self, Bool.and_false, Bool.false_and, h1]⟩
    | true =>
      cases h2 : decide (1 < M) with
      | false => exact ⟨M, m1, Int.le_refl _, by simp (disch := decide) only [x_seq, x_seq1, x_seq2, x_seq3, x_seq4, x_seq5, x_seq6, x_nil, x_if, x_if1, x_if2, x_if3, x_ret, x_ret1, x_ret2, x_ret3, x_retN, x_asg, x_asg1, x_asg2, x_asg3, x_asg4, x_asg5, x_gN, x_drop, x_drop1, x_drop2, x_bk, x_ct, x_raise, x_tZ, x_tZ1, x_tZ2, x_tE, x_tE1, x_tE2, x_tE3, x_tAnd, x_tAnd1, x_tAnd2, x_tAnd3, x_tOr, x_tOr1, x_tOr2, x_tOr3, x_tNot, x_tNot1, x_tNot2, x_tNot3, x_tTrue, x_z2, x_z21, x_z1, x_z11, x_zC, x_zC1, x_za, x_za1, x_za0, x_zV, x_zK, x_ch, x_ch1, x_ch2, x_eZ, x_eZ1, x_eZ2, x_eV, x_eV1, x_eM, x_eM1, x_b1, x_b2, x_b3, x_s1, x_s2, x_s3, x_oO, x_oO2, x_e2, x_e1, x_eC, x_aN, x_aC, x_tup, x_lst, x_call, x_oC1, x_oC2, x_call0, x_call01, x_eAnd, x_eAnd1, x_eOr, x_eOr1, x_eNot, x_eNot1, x_eIf, x_eIf1, x_fz_int, x_fr_int, x_fz_bl, x_fr_bl, x_fz_str, x_fr_str, x_fz_ty, x_fr_ty, x_fz_tup, x_fr_tup, x_fz_cst, x_fr_cst, x_fz_lst_false, x_fr_lst_false, x_fz_non, x_fr_non, x_fz_lt, x_fr_lt, x_fL0, x_fL1, x_cF, x_cR1, x_cR2, x_cR3, x_iL, x_iL1, x_iT, x_iT1, x_iS, x_iS1, x_iR1, x_iR11, x_iR2, x_iR21, x_iE, x_iE1, x_iV, x_iV1, x_iZ, x_iZ1, x_for, x_fo0, x_fo1, x_fo2, x_fo3, x_fo4, x_fo5, x_fo6, x_fo7, x_gT, x_gC, x_gC0, x_try, x_try1, x_try2, x_try3, x_try4, x_try5, x_nx1, x_nx2, x_try6, x_try7, x_nx3, x_nx4, x_app, x_app1, x_app2, x_lc, x_lcE, x_lc0, x_lc1, x_lcG, x_w0, x_w1, vMinL4, vMaxL4, vAll3, vAny3, vAll4, vAny4, x_wh1, x_wh2, x_wh0, x_abs, vI_ii, vI_ib, vI_it, vI_il, vI_is, vI_bb, vI_bi, vI_tt, vI_tl, vI_ti, vI_ll, vI_lt, vI_ss, vEqB, vNeB, x_ta, x_ta1, x_ta2, x_ta3, x_ta4, x_ta5, x_is, nc_0, nc_1, nc_2, nc_3, nc_4, nc_5, nc_6, nc_7, nc_8, nc_9, nc_10, nc_11, vMax2, vMin2, vIsN0, vIsN1, vNotN0, vNotN1, vIsN2, vNotN2, x_lo, x_lo1, x_lo2, vAll2, vAny2, x_sl, x_sl1, x_sl2, x_pn, x_ps, x_ps1, x_cutL, x_cutC, vEqS, vNeS, x_fz_obj, x_fr_obj, x_make, x_meth, x_meth2, x_meth3, x_isO, x_isO1, x_cat, x_cat1, x_methZ, x_methZ2, x_methZ3, x_callZ, x_callZ1, x_lend1, x_lend2, x_cl_int, x_cl_bl, x_cl_str, x_cl_non, x_cl_tup, x_cl0, x_cl1, x_cl_lst, x_setIx, x_setIx1, x_setIx2, x_callI, x_callI1, x_callI2, x_callI3, x_take0, x_take1, x_take2, x_put0, x_put1, x_cFI, x_cRI1, x_cRI2, x_outR, x_outR1, x_out1, x_out2, x_par, x_par1, x_sort, x_sort1, x_sort2, x_io2, x_io4, vIsB, x_pop, x_lr, x_lr1, x_clr, x_clr1, x_clrE, x_clrE1, x_pop1, x_pop2, x_ins, x_ins1, x_ins2, List.all_cons, List.all_nil, Option.isSome_some, Option.map_some, List.getD_cons_zero, List.getD_cons_succ, List.set_cons_zero, List.set_cons_succ, List.map_cons, List.map_nil, List.replicate_zero, List.replicate_succ, List.length_cons, List.length_nil, List.cons_append, List.nil_append, Option.bind_some, if_true, if_false, Bool.false_eq_true, Nat.reduceSub, Nat.reduceAdd, Nat.reduceLeDiff, Nat.reduceLT, vAdd, vSub, vLt, vLe, vGt, vGe, vNeg, vEq, vNe, vEq2, vNe2, vMod, vDiv, vMul, vPow, Int.reduceToNat, vIx0, vIx1, vLenT, vLenC, vLenL, reduceIte, decide_true, decide_false, Bool.not_true, Bool.not_false, beq_self_eq_true, Bool.and_true, Bool.true_and, Bool.and_self, Bool.and_false, Bool.false_and, h1, h2]⟩
      | true =>
        have := of_decide_eq_true h2
        exact ⟨M - 1, by omega, by omega, by simp (disch := decide) only [x_seq, x_seq1, x_seq2, x_seq3, x_seq4, x_seq5, x_seq6, x_nil, x_if, x_if1, x_if2, x_if3, x_ret, x_ret1, x_ret2, x_ret3, x_retN, x_asg, x_asg1, x_asg2, x_asg3, x_asg4, x_asg5, x_gN, x_drop, x_drop1, x_drop2, x_bk, x_ct, x_raise, x_tZ, x_tZ1, x_tZ2, x_tE, x_tE1, x_tE2, x_tE3, x_tAnd, x_tAnd1, x_tAnd2, x_tAnd3, x_tOr, x_tOr1, x_tOr2, x_tOr3, x_tNot, x_tNot1, x_tNot2, x_tNot3, x_tTrue, x_z2, x_z21, x_z1, x_z11, x_zC, x_zC1, x_za, x_za1, x_za0, x_zV, x_zK, x_ch, x_ch1, x_ch2, x_eZ, x_eZ1, x_eZ2, x_eV, x_eV1, x_eM, x_eM1, x_b1, x_b2, x_b3, x_s1, x_s2, x_s3, x_oO, x_oO2, x_e2, x_e1, x_eC, x_aN, x_aC, x_tup, x_lst, x_call, x_oC1, x_oC2, x_call0, x_call01, x_eAnd, x_eAnd1, x_eOr, x_eOr1, x_eNot, x_eNot1, x_eIf, x_eIf1, x_fz_int, x_fr_int, x_fz_bl, x_fr_bl, x_fz_str, x_fr_str, x_fz_ty, x_fr_ty, x_fz_tup, x_fr_tup, x_fz_cst, x_fr_cst, x_fz_lst_false, x_fr_lst_false, x_fz_non, x_fr_non, x_fz_lt, x_fr_lt, x_fL0, x_fL1, x_cF, x_cR1, x_cR2, x_cR3, x_iL, x_iL1, x_iT, x_iT1, x_iS, x_iS1, x_iR1, x_iR11, x_iR2, x_iR21, x_iE, x_iE1, x_iV, x_iV1, x_iZ, x_iZ1, x_for, x_fo0, x_fo1, x_fo2, x_fo3, x_fo4, x_fo5, x_fo6, x_fo7, x_gT, x_gC, x_gC0, x_try, x_try1, x_try2, x_try3, x_try4, x_try5, x_nx1, x_nx2, x_try6, x_try7, x_nx3, x_nx4, x_app, x_app1, x_app2, x_lc, x_lcE, x_lc0, x_lc1, x_lcG, x_w0, x_w1, vMinL4, vMaxL4, vAll3, vAny3, vAll4, vAny4, x_wh1, x_wh2, x_wh0, x_abs, vI_ii, vI_ib, vI_it, vI_il, vI_is, vI_bb, vI_bi, vI_tt, vI_tl, vI_ti, vI_ll, vI_lt, vI_ss, vEqB, vNeB, x_ta, x_ta1, x_ta2, x_ta3, x_ta4, x_ta5, x_is, nc_0, nc_1, nc_2, nc_3, nc_4, nc_5, nc_6, nc_7, nc_8, nc_9, nc_10, nc_11, vMax2, vMin2, vIsN0, vIsN1, vNotN0, vNotN1, vIsN2, vNotN2, x_lo, x_lo1, x_lo2, vAll2, vAny2, x_sl, x_sl1, x_sl2, x_pn, x_ps, x_ps1, x_cutL, x_cutC, vEqS, vNeS, x_fz_obj, x_fr_obj, x_make, x_meth, x_meth2, x_meth3, x_isO, x_isO1, x_cat, x_cat1, x_methZ, x_methZ2, x_methZ3, x_callZ, x_callZ1, x_lend1, x_lend2, x_cl_int, x_cl_bl, x_cl_str, x_cl_non, x_cl_tup, x_cl0, x_cl1, x_cl_lst, x_setIx, x_setIx1, x_setIx2, x_callI, x_callI1, x_callI2, x_callI3, x_take0, x_take1, x_take2, x_put0, x_put1, x_cFI, x_cRI1, x_cRI2, x_outR, x_outR1, x_out1, x_out2, x_par, x_par1, x_sort, x_sort1, x_sort2, x_io2, x_io4, vIsB, x_pop, x_lr, x_lr1, x_clr, x_clr1, x_clrE, x_clrE1, x_pop1, x_pop2, x_ins, x_ins1, x_ins2, List.all_cons, List.all_nil, Option.isSome_some, Option.map_some, List.getD_cons_zero, List.getD_cons_succ, List.set_cons_zero, List.set_cons_succ, List.map_cons, List.map_nil, List.replicate_zero, List.replicate_succ, List.length_cons, List.length_nil, List.cons_append, List.nil_append, Option.bind_some, if_true, if_false, Bool.false_eq_true, Nat.reduceSub, Nat.reduceAdd, Nat.reduceLeDiff, Nat.reduceLT, vAdd, vSub, vLt, vLe, vGt, vGe, vNeg, vEq, vNe, vEq2, vNe2, vMod, vDiv, vMul, vPow, Int.reduceToNat, vIx0, vIx1, vLenT, vLenC, vLenL, reduceIte, decide_true, decide_false, Bool.not_true, Bool.not_false, beq_self_eq_true, Bool.and_true, Bool.true_and, Bool.and_self, Bool.and_false, Bool.false_and, h1, h2]⟩
  obtain ⟨q, hq⟩ : ∃ q, C.toNat = q := ⟨_, rfl⟩
  obtain ⟨us, hus⟩ : ∃ us : List Nd, (List.range q).map (fun k => Nd.unk ((k : Nat) : Int)) = us := ⟨_, rfl⟩
  have ul : us.length = q := by rw [← hus]; simp
  have um : ∀ n ∈ us, ∃ j : Int, n = .unk j ∧ 0 ≤ j ∧ j < M := fun n hn => by
    rw [← hus] at hn
    obtain ⟨k, hk, rfl⟩ := List.mem_map.mp hn
    have := List.mem_range.mp hk
    exact ⟨_, rfl, by omega, by omega⟩
  have ec : c__law_first_1 [some (.int c), some (.int M), some (.int C), none, none] = .ok (.lst true (us.map Nd.d)) [some (.int c), some (.int M), some (.int C), none, none] := by
    have eL : us.map Nd.d = (List.range q).map fun k => Nd.d (.unk ((k : Nat) : Int)) := by rw [← hus, List.map_map]; rfl
    rw [eL]
    refine lc_rng (own := [4]) (i := 2) (fun k => Nd.d (.unk ((k : Nat) : Int))) rfl hq (by omega) (by omega) rfl (fun k hk => ⟨_, [some (.int c), some (.int M), some (.int C), none, some (.int (0 + ((k : Nat) : Int)))], x_gN, ?_, rfl⟩)
    rw [Int.zero_add]
    generalize ((k : Nat) : Int) = kk
    simp only [Nd.d, x_seq, x_seq1, x_seq2, x_seq3, x_seq4, x_seq5, x_seq6, x_nil, x_if, x_if1, x_if2, x_if3, x_ret, x_ret1, x_ret2, x_ret3, x_retN, x_asg, x_asg1, x_asg2, x_asg3, x_asg4, x_asg5, x_gN, x_drop, x_drop1, x_drop2, x_bk, x_ct, x_raise, x_tZ, x_tZ1, x_tZ2, x_tE, x_tE1, x_tE2, x_tE3, x_tAnd, x_tAnd1, x_tAnd2, x_tAnd3, x_tOr, x_tOr1, x_tOr2, x_tOr3, x_tNot, x_tNot1, x_tNot2, x_tNot3, x_tTrue, x_z2, x_z21, x_z1, x_z11, x_zC, x_zC1, x_za, x_za1, x_za0, x_zV, x_zK, x_ch, x_ch1, x_ch2, x_eZ, x_eZ1, x_eZ2, x_eV, x_eV1, x_eM, x_eM1, x_b1, x_b2, x_b3, x_s1, x_s2, x_s3, x_oO, x_oO2, x_e2, x_e1, x_eC, x_aN, x_aC, x_tup, x_lst, x_call, x_oC1, x_oC2, x_call0, x_call01, x_eAnd, x_eAnd1, x_eOr, x_eOr1, x_eNot, x_eNot1, x_eIf, x_eIf1, x_fz_int, x_fr_int, x_fz_bl, x_fr_bl, x_fz_str, x_fr_str, x_fz_ty, x_fr_ty, x_fz_tup, x_fr_tup, x_fz_cst, x_fr_cst, x_fz_lst_false, x_fr_lst_false, x_fz_non, x_fr_non, x_fz_lt, x_fr_lt, x_fL0, x_fL1, x_cF, x_cR1, x_cR2, x_cR3, x_iL, x_iL1, x_iT, x_iT1, x_iS, x_iS1, x_iR1, x_iR11, x_iR2, x_iR21, x_iE, x_iE1, x_iV, x_iV1, x_iZ, x_iZ1, x_for, x_fo0, x_fo1, x_fo2, x_fo3, x_fo4, x_fo5, x_fo6, x_fo7, x_gT, x_gC, x_gC0, x_try, x_try1, x_try2, x_try3, x_try4, x_try5, x_nx1, x_nx2, x_try6, x_try7, x_nx3, x_nx4, x_app, x_app1, x_app2, x_lc, x_lcE, x_lc0, x_lc1, x_lcG, x_w0, x_w1, vMinL4, vMaxL4, vAll3, vAny3, vAll4, vAny4, x_wh1, x_wh2, x_wh0, x_abs, vI_ii, vI_ib, vI_it, vI_il, vI_is, vI_bb, vI_bi, vI_tt, vI_tl, vI_ti, vI_ll, vI_lt, vI_ss, vEqB, vNeB, x_ta, x_ta1, x_ta2, x_ta3, x_ta4, x_ta5, x_is, nc_0, nc_1, nc_2, nc_3, nc_4, nc_5, nc_6, nc_7, nc_8, nc_9, nc_10, nc_11, vMax2, vMin2, vIsN0, vIsN1, vNotN0, vNotN1, vIsN2, vNotN2, x_lo, x_lo1, x_lo2, vAll2, vAny2, x_sl, x_sl1, x_sl2, x_pn, x_ps, x_ps1, x_cutL, x_cutC, vEqS, vNeS, x_fz_obj, x_fr_obj, x_make, x_meth, x_meth2, x_meth3, x_isO, x_isO1, x_cat, x_cat1, x_methZ, x_methZ2, x_methZ3, x_callZ, x_callZ1, x_lend1, x_lend2, x_cl_int, x_cl_bl, x_cl_str, x_cl_non, x_cl_tup, x_cl0, x_cl1, x_cl_lst, x_setIx, x_setIx1, x_setIx2, x_callI, x_callI1, x_callI2, x_callI3, x_take0, x_take1, x_take2, x_put0, x_put1, x_cFI, x_cRI1, x_cRI2, x_outR, x_outR1, x_out1, x_out2, x_par, x_par1, x_sort, x_sort1, x_sort2, x_io2, x_io4, vIsB, x_pop, x_lr, x_lr1, x_clr, x_clr1, x_clrE, x_clrE1, x_pop1, x_pop2, x_ins, x_ins1, x_ins2, List.all_cons, List.all_nil, Option.isSome_some, Option.map_some, List.getD_cons_zero, List.getD_cons_succ, List.set_cons_zero, List.set_cons_succ, List.map_cons, List.map_nil, List.replicate_zero, List.replicate_succ, List.length_cons, List.length_nil, List.cons_append, List.nil_append, Option.bind_some, if_true, if_false, Bool.false_eq_true, Nat.reduceSub, Nat.reduceAdd, Nat.reduceLeDiff, Nat.reduceLT, vAdd, vSub, vLt, vLe, vGt, vGe, vNeg, vEq, vNe, vEq2, vNe2, vMod, vDiv, vMul, vPow, Int.reduceToNat, vIx0, vIx1, vLenT, vLenC, vLenL, reduceIte, decide_true, decide_false, Bool.not_true, Bool.not_false, beq_self_eq_true, Bool.and_true, Bool.true_and, Bool.and_self, Bool.and_false, Bool.false_and]
  have e0 : sAsg (eVar 1) (gN 2) [some (.int c), some (.int M), none, none, none] = .nx [some (.int c), some (.int M), some (.int M), none, none] := rfl
  have run : ∀ ns : List Nd, sIf (tZ (z2 gEq (z2 gMod (z2 gDiv (zVar 0) (zC (.int 5))) (zC (.int 2))) (zC (.int 1)))) (sAsg (eLstRev (eVar 3)) (gN 3)) sNil [some (.int c), some (.int M), some (.int C), some (.lst true (us.map Nd.d)), none] = .nx [some (.int c), some (.int M), some (.int C), some (.lst true (ns.map Nd.d)), none] → f__law_first [.int c, .int M] = .ok (.lst true (ns.map Nd.d)) := fun ns h =>
    (cF_ok (b := m__law_first) (n := 2) (N := 5) (τ0 := [some (.int c), some (.int M), none, none, none]) rfl rfl (x_seq_ok e0 (x_seq_ok e1 (x_seq_ok (x_asg_ok ec rfl) (x_seq_ok h rfl))))).trans rfl
  have fU := nds_fz us
  cases h3 : (c / 5 % 2 == 1) with
  | false =>
    refine ⟨us, run us ?_, um, by omega, by omega⟩
    generalize us.map Nd.d = S at *
    simp (disch := decide) only [x_seq, x_seq1, x_seq2, x_seq3, x_seq4, x_seq5, x_seq6, x_nil, x_if, x_if1, x_if2, x_if3, x_ret, x_ret1, x_ret2, x_ret3, x_retN, x_asg, x_asg1, x_asg2, x_asg3, x_asg4, x_asg5, x_gN, x_drop, x_drop1, x_drop2, x_bk, x_ct, x_raise, x_tZ, x_tZ1, x_tZ2, x_tE, x_tE1, x_tE2, x_tE3, x_tAnd, x_tAnd1, x_tAnd2, x_tAnd3, x_tOr, x_tOr1, x_tOr2, x_tOr3, x_tNot, x_tNot1, x_tNot2, x_tNot3, x_tTrue, x_z2, x_z21, x_z1, x_z11, x_zC, x_zC1, x_za, x_za1, x_za0, x_zV, x_zK, x_ch, x_ch1, x_ch2, x_eZ, x_eZ1, x_eZ2, x_eV, x_eV1, x_eM, x_eM1, x_b1, x_b2, x_b3, x_s1, x_s2, x_s3, x_oO, x_oO2, x_e2, x_e1, x_eC, x_aN, x_aC, x_tup, x_lst, x_call, x_oC1, x_oC2, x_call0, x_call01, x_eAnd, x_eAnd1, x_eOr, x_eOr1, x_eNot, x_eNot1, x_eIf, x_eIf1, x_fz_int, x_fr_int, x_fz_bl, x_fr_bl, x_fz_str, x_fr_str, x_fz_ty, x_fr_ty, x_fz_tup, x_fr_tup, x_fz_cst, x_fr_cst, x_fz_lst_false, x_fr_lst_false, x_fz_non, x_fr_non, x_fz_lt, x_fr_lt, x_fL0, x_fL1, x_cF, x_cR1, x_cR2, x_cR3, x_iL, x_iL1, x_iT, x_iT1, x_iS, x_iS1, x_iR1, x_iR11, x_iR2, x_iR21, x_iE, x_iE1, x_iV, x_iV1, x_iZ, x_iZ1, x_for, x_fo0, x_fo1, x_fo2, x_fo3, x_fo4, x_fo5, x_fo6, x_fo7, x_gT, x_gC, x_gC0, x_try, x_try1, x_try2, x_try3, x_try4, x_try5, x_nx1, x_nx2, x_try6, x_try7, x_nx3, x_nx4, x_app, x_app1, x_app2, x_lc, x_lcE, x_lc0, x_lc1, x_lcG, x_w0, x_w1, vMinL4, vMaxL4, vAll3, vAny3, vAll4, vAny4, x_wh1, x_wh2, x_wh0, x_abs, vI_ii, vI_ib, vI_it, vI_il, vI_is, vI_bb, vI_bi, vI_tt, vI_tl, vI_ti, vI_ll, vI_lt, vI_ss, vEqB, vNeB, x_ta, x_ta1, x_ta2, x_ta3, x_ta4, x_ta5, x_is, nc_0, nc_1, nc_2, nc_3, nc_4, nc_5, nc_6, nc_7, nc_8, nc_9, nc_10, nc_11, vMax2, vMin2, vIsN0, vIsN1, vNotN0, vNotN1, vIsN2, vNotN2, x_lo, x_lo1, x_lo2, vAll2, vAny2, x_sl, x_sl1, x_sl2, x_pn, x_ps, x_ps1, x_cutL, x_cutC, vEqS, vNeS, x_fz_obj, x_fr_obj, x_make, x_meth, x_meth2, x_meth3, x_isO, x_isO1, x_cat, x_cat1, x_methZ, x_methZ2, x_methZ3, x_callZ, x_callZ1, x_lend1, x_lend2, x_cl_int, x_cl_bl, x_cl_str, x_cl_non, x_cl_tup, x_cl0, x_cl1, x_cl_lst, x_setIx, x_setIx1, x_setIx2, x_callI, x_callI1, x_callI2, x_callI3, x_take0, x_take1, x_take2, x_put0, x_put1, x_cFI, x_cRI1, x_cRI2, x_outR, x_outR1, x_out1, x_out2, x_par, x_par1, x_sort, x_sort1, x_sort2, x_io2, x_io4, vIsB, x_pop, x_lr, x_lr1, x_clr, x_clr1, x_clrE, x_clrE1, x_pop1, x_pop2, x_ins, x_ins1, x_ins2, List.all_cons, List.all_nil, Option.isSome_some, Option.map_some, List.getD_cons_zero, List.getD_cons_succ, List.set_cons_zero, List.set_cons_succ, List.map_cons, List.map_nil, List.replicate_zero, List.replicate_succ, List.length_cons, List.length_nil, List.cons_append, List.nil_append, Option.bind_some, if_true, if_false, Bool.false_eq_true, Nat.reduceSub, Nat.reduceAdd, Nat.reduceLeDiff, Nat.reduceLT, vAdd, vSub, vLt, vLe, vGt, vGe, vNeg, vEq, vNe, vEq2, vNe2, vMod, vDiv, vMul, vPow, Int.reduceToNat, vIx0, vIx1, vLenT, vLenC, vLenL, reduceIte, decide_true, decide_false, Bool.not_true, Bool.not_false, beq_self_eq_true, Bool.and_true, Bool.true_and, Bool.and_self, Bool.and_false, Bool.false_and, h3]
  | true =>
    refine ⟨us.reverse, run us.reverse ?_, fun n hn => um n (List.mem_reverse.mp hn), by rw [List.length_reverse]; omega, by rw [List.length_reverse]; omega⟩
    rw [List.map_reverse]
    generalize us.map Nd.d = S at *
    simp (disch := decide) only [x_seq, x_seq1, x_seq2, x_seq3, x_seq4, x_seq5, x_seq6, x_nil, x_if, x_if1, x_if2, x_if3, x_ret, x_ret1, x_ret2, x_ret3, x_retN, x_asg, x_asg1, x_asg2, x_asg3, x_asg4, x_asg5, x_gN, x_drop, x_drop1, x_drop2, x_bk, x_ct, x_raise, x_tZ, x_tZ1, x_tZ2, x_tE, x_tE1, x_tE2, x_tE3, x_tAnd, x_tAnd1, x_tAnd2, x_tAnd3, x_tOr, x_tOr1, x_tOr2, x_tOr3, x_tNot, x_tNot1, x_tNot2, x_tNot3, x_tTrue, x_z2, x_z21, x_z1, x_z11, x_zC, x_zC1, x_za, x_za1, x_za0, x_zV, x_zK, x_ch, x_ch1, x_ch2, x_eZ, x_eZ1, x_eZ2, x_eV, x_eV1, x_eM, x_eM1, x_b1, x_b2, x_b3, x_s1, x_s2, x_s3, x_oO, x_oO2, x_e2, x_e1, x_eC, x_aN, x_aC, x_tup, x_lst, x_call, x_oC1, x_oC2, x_call0, x_call01, x_eAnd, x_eAnd1, x_eOr, x_eOr1, x_eNot, x_eNot1, x_eIf, x_eIf1, x_fz_int, x_fr_int, x_fz_bl, x_fr_bl, x_fz_str, x_fr_str, x_fz_ty, x_fr_ty, x_fz_tup, x_fr_tup, x_fz_cst, x_fr_cst, x_fz_lst_false, x_fr_lst_false, x_fz_non, x_fr_non, x_fz_lt, x_fr_lt, x_fL0, x_fL1, x_cF, x_cR1, x_cR2, x_cR3, x_iL, x_iL1, x_iT, x_iT1, x_iS, x_iS1, x_iR1, x_iR11, x_iR2, x_iR21, x_iE, x_iE1, x_iV, x_iV1, x_iZ, x_iZ1, x_for, x_fo0, x_fo1, x_fo2, x_fo3, x_fo4, x_fo5, x_fo6, x_fo7, x_gT, x_gC, x_gC0, x_try, x_try1, x_try2, x_try3, x_try4, x_try5, x_nx1, x_nx2, x_try6, x_try7, x_nx3, x_nx4, x_app, x_app1, x_app2, x_lc, x_lcE, x_lc0, x_lc1, x_lcG, x_w0, x_w1, vMinL4, vMaxL4, vAll3, vAny3, vAll4, vAny4, x_wh1, x_wh2, x_wh0, x_abs, vI_ii, vI_ib, vI_it, vI_il, vI_is, vI_bb, vI_bi, vI_tt, vI_tl, vI_ti, vI_ll, vI_lt, vI_ss, vEqB, vNeB, x_ta, x_ta1, x_ta2, x_ta3, x_ta4, x_ta5, x_is, nc_0, nc_1, nc_2, nc_3, nc_4, nc_5, nc_6, nc_7, nc_8, nc_9, nc_10, nc_11, vMax2, vMin2, vIsN0, vIsN1, vNotN0, vNotN1, vIsN2, vNotN2, x_lo, x_lo1, x_lo2, vAll2, vAny2, x_sl, x_sl1, x_sl2, x_pn, x_ps, x_ps1, x_cutL, x_cutC, vEqS, vNeS, x_fz_obj, x_fr_obj, x_make, x_meth, x_meth2, x_meth3, x_isO, x_isO1, x_cat, x_cat1, x_methZ, x_methZ2, x_methZ3, x_callZ, x_callZ1, x_lend1, x_lend2, x_cl_int, x_cl_bl, x_cl_str, x_cl_non, x_cl_tup, x_cl0, x_cl1, x_cl_lst, x_setIx, x_setIx1, x_setIx2, x_callI, x_callI1, x_callI2, x_callI3, x_take0, x_take1, x_take2, x_put0, x_put1, x_cFI, x_cRI1, x_cRI2, x_outR, x_outR1, x_out1, x_out2, x_par, x_par1, x_sort, x_sort1, x_sort2, x_io2, x_io4, vIsB, x_pop, x_lr, x_lr1, x_clr, x_clr1, x_clrE, x_clrE1, x_pop1, x_pop2, x_ins, x_ins1, x_ins2, List.all_cons, List.all_nil, Option.isSome_some, Option.map_some, List.getD_cons_zero, List.getD_cons_succ, List.set_cons_zero, List.set_cons_succ, List.map_cons, List.map_nil, List.replicate_zero, List.replicate_succ, List.length_cons, List.length_nil, List.cons_append, List.nil_append, Option.bind_some, if_true, if_false, Bool.false_eq_true, Nat.reduceSub, Nat.reduceAdd, Nat.reduceLeDiff, Nat.reduceLT, vAdd, vSub, vLt, vLe, vGt, vGe, vNeg, vEq, vNe, vEq2, vNe2, vMod, vDiv, vMul, vPow, Int.reduceToNat, vIx0, vIx1, vLenT, vLenC, vLenL, reduceIte, decide_true, decide_false, Bool.not_true, Bool.not_false, beq_self_eq_true, Bool.and_true, Bool.true_and, Bool.and_self, Bool.and_false, Bool.false_and, h3, fU]
theorem grow_all {scr B : List D} {M g : Int}  {ns : List Nd} {ws : List Int} (hN : Net M ns ws) (n1 : 1 ≤ ns.length) (n4 : ns.length ≤ 4) {cs : List Int} (hcs : cutL scr (some 11) (some 27) = cs.map D.int) (hl : cs.length ≤ 63) : ∃ ns' ws' x7, Net M ns' ws' ∧ 1 ≤ ns'.length ∧ ns'.length ≤ 100 ∧ u_law_5 [some (.cst scr), some (.int M), some (.int g), some (.lst true B), none, some (.lst true (ns.map Nd.d)), some (.lst true (ws.map D.int)), none, none, none, none, none, none, none] = u_law_6 [some (.cst scr), some (.int M), some (.int g), some (.lst true B), none, some (.lst true (List.map Nd.d ns')), some (.lst true (List.map D.int ws')), none, x7, none, none, none, none, none] := by
  obtain ⟨C, hC⟩ : ∃ C, cs.map D.int = C := ⟨_, rfl⟩
  have lC : C.length = cs.length := by rw [← hC, List.length_map]
  have fC : freezeL C = C := by rw [← hC, fz_map]; intro p; rfl
  obtain ⟨τ', e, ns', ws', x7, h1, h2, h3, rfl⟩ := for_idx (g := gN 8) (b := l_law_1) (fun k τ => ∃ (ns : List Nd) (ws : List Int) (x7 : Option D), Net M ns ws ∧ 1 ≤ ns.length ∧ ns.length ≤ 4 + k ∧ τ = [some (.cst scr), some (.int M), some (.int g), some (.lst true B), none, some (.lst true (ns.map Nd.d)), some (.lst true (ws.map D.int)), none, x7, none, none, none, none, none]) C 0 [some (.cst scr), some (.int M), some (.int g), some (.lst true B), none, some (.lst true (ns.map Nd.d)), some (.lst true (ws.map D.int)), none, none, none, none, none, none, none] (fun k d τ hd hI => by
    obtain ⟨ns, ws, x7, q1, q2, q3, rfl⟩ := hI
    rw [Nat.zero_add] at q3 ⊢
    have hk : k < cs.length := by rw [← lC]; exact (List.getElem?_eq_some_iff.mp hd).1
    rw [← hC] at hd
    rw [List.getElem?_map, List.getElem?_eq_getElem hk] at hd
    have hd : D.int cs[k] = d := by simpa using hd
    obtain ⟨ns', ws', eg, p1, p2, p3⟩ := grow_ok q1 q2 (by omega) cs[k]
    subst hd
    refine ⟨_, [some (.cst scr), some (.int M), some (.int g), some (.lst true B), none, some (.lst true (List.map Nd.d ns')), some (.lst true (List.map D.int ws')), none, some (.int cs[k]), none, none, none, none, none], x_gN, .inl ?_, ns', ws', _, p1, by omega, by omega, rfl⟩
    clear q1 p1 p2 p3
    generalize cs[k] = c at *
    generalize ns.map Nd.d = S at *
    generalize ws.map D.int = Ww at *
    generalize ns'.map Nd.d = S' at *
    generalize ws'.map D.int = W' at *
    simp (disch := decide) only [l_law_1, x_seq, x_seq1, x_seq2, x_seq3, x_seq4, x_seq5, x_seq6, x_nil, x_if, x_if1, x_if2, x_if3, x_ret, x_ret1, x_ret2, x_ret3, x_retN, x_asg, x_asg1, x_asg2, x_asg3, x_asg4, x_asg5, x_gN, x_drop, x_drop1, x_drop2, x_bk, x_ct, x_raise, x_tZ, x_tZ1, x_tZ2, x_tE, x_tE1, x_tE2, x_tE3, x_tAnd, x_tAnd1, x_tAnd2, x_tAnd3, x_tOr, x_tOr1, x_tOr2, x_tOr3, x_tNot, x_tNot1, x_tNot2, x_tNot3, x_tTrue, x_z2, x_z21, x_z1, x_z11, x_zC, x_zC1, x_za, x_za1, x_za0, x_zV, x_zK, x_ch, x_ch1, x_ch2, x_eZ, x_eZ1, x_eZ2, x_eV, x_eV1, x_eM, x_eM1, x_b1, x_b2, x_b3, x_s1, x_s2, x_s3, x_oO, x_oO2, x_e2, x_e1, x_eC, x_aN, x_aC, x_tup, x_lst, x_call, x_oC1, x_oC2, x_call0, x_call01, x_eAnd, x_eAnd1, x_eOr, x_eOr1, x_eNot, x_eNot1, x_eIf, x_eIf1, x_fz_int, x_fr_int, x_fz_bl, x_fr_bl, x_fz_str, x_fr_str, x_fz_ty, x_fr_ty, x_fz_tup, x_fr_tup, x_fz_cst, x_fr_cst, x_fz_lst_false, x_fr_lst_false, x_fz_non, x_fr_non, x_fz_lt, x_fr_lt, x_fL0, x_fL1, x_cF, x_cR1, x_cR2, x_cR3, x_iL, x_iL1, x_iT, x_iT1, x_iS, x_iS1, x_iR1, x_iR11, x_iR2, x_iR21, x_iE, x_iE1, x_iV, x_iV1, x_iZ, x_iZ1, x_for, x_fo0, x_fo1, x_fo2, x_fo3, x_fo4, x_fo5, x_fo6, x_fo7, x_gT, x_gC, x_gC0, x_try, x_try1, x_try2, x_try3, x_try4, x_try5, x_nx1, x_nx2, x_try6, x_try7, x_nx3, x_nx4, x_app, x_app1, x_app2, x_lc, x_lcE, x_lc0, x_lc1, x_lcG, x_w0, x_w1, vMinL4, vMaxL4, vAll3, vAny3, vAll4, vAny4, x_wh1, x_wh2, x_wh0, x_abs, vI_ii, vI_ib, vI_it, vI_il, vI_is, vI_bb, vI_bi, vI_tt, vI_tl, vI_ti, vI_ll, vI_lt, vI_ss, vEqB, vNeB, x_ta, x_ta1, x_ta2, x_ta3, x_ta4, x_ta5, x_is, nc_0, nc_1, nc_2, nc_3, nc_4, nc_5, nc_6, nc_7, nc_8, nc_9, nc_10, nc_11, vMax2, vMin2, vIsN0, vIsN1, vNotN0, vNotN1, vIsN2, vNotN2, x_lo, x_lo1, x_lo2, vAll2, vAny2, x_sl, x_sl1, x_sl2, x_pn, x_ps, x_ps1, x_cutL, x_cutC, vEqS, vNeS, x_fz_obj, x_fr_obj, x_make, x_meth, x_meth2, x_meth3, x_isO, x_isO1, x_cat, x_cat1, x_methZ, x_methZ2, x_methZ3, x_callZ, x_callZ1, x_lend1, x_lend2, x_cl_int, x_cl_bl, x_cl_str, x_cl_non, x_cl_tup, x_cl0, x_cl1, x_cl_lst, x_setIx, x_setIx1, x_setIx2, x_callI, x_callI1, x_callI2, x_callI3, x_take0, x_take1, x_take2, x_put0, x_put1, x_cFI, x_cRI1, x_cRI2, x_outR, x_outR1, x_out1, x_out2, x_par, x_par1, x_sort, x_sort1, x_sort2, x_io2, x_io4, vIsB, x_pop, x_lr, x_lr1, x_clr, x_clr1, x_clrE, x_clrE1, x_pop1, x_pop2, x_ins, x_ins1, x_ins2, List.all_cons, List.all_nil, Option.isSome_some, Option.map_some, List.getD_cons_zero, List.getD_cons_succ, List.set_cons_zero, List.set_cons_succ, List.map_cons, List.map_nil, List.replicate_zero, List.replicate_succ, List.length_cons, List.length_nil, List.cons_append, List.nil_append, Option.bind_some, if_true, if_false, Bool.false_eq_true, Nat.reduceSub, Nat.reduceAdd, Nat.reduceLeDiff, Nat.reduceLT, vAdd, vSub, vLt, vLe, vGt, vGe, vNeg, vEq, vNe, vEq2, vNe2, vMod, vDiv, vMul, vPow, Int.reduceToNat, vIx0, vIx1, vLenT, vLenC, vLenL, reduceIte, decide_true, decide_false, Bool.not_true, Bool.not_false, beq_self_eq_true, Bool.and_true, Bool.true_and, Bool.and_self, Bool.and_false, Bool.false_and, eg]) ⟨ns, ws, none, hN, n1, by omega, rfl⟩
  rw [Nat.zero_add, lC] at h3
  refine ⟨ns', ws', x7, h1, h2, by omega, x_seq_ok (τ1 := [some (.cst scr), some (.int M), some (.int g), some (.lst true B), none, some (.lst true (List.map Nd.d ns')), some (.lst true (List.map D.int ws')), none, x7, none, none, none, none, none]) ?_ rfl⟩
  have eI : iL (eSlice cutLd (eVar 0) (pSome (eZ (zC (.int 11)))) (pSome (eZ (zC (.int 27))))) [some (.cst scr), some (.int M), some (.int g), some (.lst true B), none, some (.lst true (ns.map Nd.d)), some (.lst true (ws.map D.int)), none, none, none, none, none, none, none] = .ok C [some (.cst scr), some (.int M), some (.int g), some (.lst true B), none, some (.lst true (ns.map Nd.d)), some (.lst true (ws.map D.int)), none, none, none, none, none, none, none] := by
    rw [hC] at hcs
    generalize ns.map Nd.d = S at *
    generalize ws.map D.int = Ww at *
    simp (disch := decide) only [x_seq, x_seq1, x_seq2, x_seq3, x_seq4, x_seq5, x_seq6, x_nil, x_if, x_if1, x_if2, x_if3, x_ret, x_ret1, x_ret2, x_ret3, x_retN, x_asg, x_asg1, x_asg2, x_asg3, x_asg4, x_asg5, x_gN, x_drop, x_drop1, x_drop2, x_bk, x_ct, x_raise, x_tZ, x_tZ1, x_tZ2, x_tE, x_tE1, x_tE2, x_tE3, x_tAnd, x_tAnd1, x_tAnd2, x_tAnd3, x_tOr, x_tOr1, x_tOr2, x_tOr3, x_tNot, x_tNot1, x_tNot2, x_tNot3, x_tTrue, x_z2, x_z21, x_z1, x_z11, x_zC, x_zC1, x_za, x_za1, x_za0, x_zV, x_zK, x_ch, x_ch1, x_ch2, x_eZ, x_eZ1, x_eZ2, x_eV, x_eV1, x_eM, x_eM1, x_b1, x_b2, x_b3, x_s1, x_s2, x_s3, x_oO, x_oO2, x_e2, x_e1, x_eC, x_aN, x_aC, x_tup, x_lst, x_call, x_oC1, x_oC2, x_call0, x_call01, x_eAnd, x_eAnd1, x_eOr, x_eOr1, x_eNot, x_eNot1, x_eIf, x_eIf1, x_fz_int, x_fr_int, x_fz_bl, x_fr_bl, x_fz_str, x_fr_str, x_fz_ty, x_fr_ty, x_fz_tup, x_fr_tup, x_fz_cst, x_fr_cst, x_fz_lst_false, x_fr_lst_false, x_fz_non, x_fr_non, x_fz_lt, x_fr_lt, x_fL0, x_fL1, x_cF, x_cR1, x_cR2, x_cR3, x_iL, x_iL1, x_iT, x_iT1, x_iS, x_iS1, x_iR1, x_iR11, x_iR2, x_iR21, x_iE, x_iE1, x_iV, x_iV1, x_iZ, x_iZ1, x_for, x_fo0, x_fo1, x_fo2, x_fo3, x_fo4, x_fo5, x_fo6, x_fo7, x_gT, x_gC, x_gC0, x_try, x_try1, x_try2, x_try3, x_try4, x_try5, x_nx1, x_nx2, x_try6, x_try7, x_nx3, x_nx4, x_app, x_app1, x_app2, x_lc, x_lcE, x_lc0, x_lc1, x_lcG, x_w0, x_w1, vMinL4, vMaxL4, vAll3, vAny3, vAll4, vAny4, x_wh1, x_wh2, x_wh0, x_abs, vI_ii, vI_ib, vI_it, vI_il, vI_is, vI_bb, vI_bi, vI_tt, vI_tl, vI_ti, vI_ll, vI_lt, vI_ss, vEqB, vNeB, x_ta, x_ta1, x_ta2, x_ta3, x_ta4, x_ta5, x_is, nc_0, nc_1, nc_2, nc_3, nc_4, nc_5, nc_6, nc_7, nc_8, nc_9, nc_10, nc_11, vMax2, vMin2, vIsN0, vIsN1, vNotN0, vNotN1, vIsN2, vNotN2, x_lo, x_lo1, x_lo2, vAll2, vAny2, x_sl, x_sl1, x_sl2, x_pn, x_ps, x_ps1, x_cutL, x_cutC, vEqS, vNeS, x_fz_obj, x_fr_obj, x_make, x_meth, x_meth2, x_meth3, x_isO, x_isO1, x_cat, x_cat1, x_methZ, x_methZ2, x_methZ3, x_callZ, x_callZ1, x_lend1, x_lend2, x_cl_int, x_cl_bl, x_cl_str, x_cl_non, x_cl_tup, x_cl0, x_cl1, x_cl_lst, x_setIx, x_setIx1, x_setIx2, x_callI, x_callI1, x_callI2, x_callI3, x_take0, x_take1, x_take2, x_put0, x_put1, x_cFI, x_cRI1, x_cRI2, x_outR, x_outR1, x_out1, x_out2, x_par, x_par1, x_sort, x_sort1, x_sort2, x_io2, x_io4, vIsB, x_pop, x_lr, x_lr1, x_clr, x_clr1, x_clrE, x_clrE1, x_pop1, x_pop2, x_ins, x_ins1, x_ins2, List.all_cons, List.all_nil, Option.isSome_some, Option.map_some, List.getD_cons_zero, List.getD_cons_succ, List.set_cons_zero, List.set_cons_succ, List.map_cons, List.map_nil, List.replicate_zero, List.replicate_succ, List.length_cons, List.length_nil, List.cons_append, List.nil_append, Option.bind_some, if_true, if_false, Bool.false_eq_true, Nat.reduceSub, Nat.reduceAdd, Nat.reduceLeDiff, Nat.reduceLT, vAdd, vSub, vLt, vLe, vGt, vGe, vNeg, vEq, vNe, vEq2, vNe2, vMod, vDiv, vMul, vPow, Int.reduceToNat, vIx0, vIx1, vLenT, vLenC, vLenL, reduceIte, decide_true, decide_false, Bool.not_true, Bool.not_false, beq_self_eq_true, Bool.and_true, Bool.true_and, Bool.and_self, Bool.and_false, Bool.false_and, hcs, fC]
  show sFor (iL (eSlice cutLd (eVar 0) (pSome (eZ (zC (.int 11)))) (pSome (eZ (zC (.int 27)))))) (gN 8) l_law_1 [some (.cst scr), some (.int M), some (.int g), some (.lst true B), none, some (.lst true (ns.map Nd.d)), some (.lst true (ws.map D.int)), none, none, none, none, none, none, none] = _
  rw [x_for, eI, x_s1]
  exact e
theorem pick {m : Nat} {P : Nat → Int × Int → Prop} (h : ∀ k, k < m → ∃ p, P k p) : ∃ F : Nat → Int × Int, ∀ k, k < m → P k (F k) := by
  classical
  refine ⟨fun k => if h' : k < m then (h k h').choose else (0, 0), fun k hk => ?_⟩
  show P k (if h' : k < m then (h k h').choose else (0, 0))
  rw [dif_pos hk]
  exact (h k hk).choose_spec
theorem box_ok (ns : List Int) {M g : Int} {m : Nat} (hm : M.toNat = m) (m1 : 1 ≤ M) (m4 : M ≤ 4) : ∃ bs : List (Int × Int), c_law_1 [some (.cst (ns.map D.int)), some (.int M), some (.int g), none, none, none, none, none, none, none, none, none, none, none] = .ok (.lst true (bs.map spD)) [some (.cst (ns.map D.int)), some (.int M), some (.int g), none, none, none, none, none, none, none, none, none, none, none] ∧ M = bs.length ∧ ∀ p ∈ bs, SpB p := by
  have gcell := @cell_j ns
  generalize ns.map D.int = scr at *
  have key : ∀ k : Nat, k < m → ∃ p, SpB p ∧ ∃ τ1 τ2, gN 4 (.int (0 + ((k : Nat) : Int))) [some (.cst scr), some (.int M), some (.int g), none, none, none, none, none, none, none, none, none, none, none] = some τ1 ∧ (eCall f__law_side (aCons (eCall f__law_cell (aCons (eVar 0) (aCons (eZ (z2 gAdd (zC (.int 3)) (z2 gMul (zC (.int 2)) (zVar 4)))) aNil))) (aCons (eCall f__law_cell (aCons (eVar 0) (aCons (eZ (z2 gAdd (zC (.int 4)) (z2 gMul (zC (.int 2)) (zVar 4)))) aNil))) aNil))) τ1 = .ok (spD p) τ2 ∧ wipeE τ2 [4] = [some (.cst scr), some (.int M), some (.int g), none, none, none, none, none, none, none, none, none, none, none] := fun k hk => by
    obtain ⟨kk, hkk, k0, k1⟩ : ∃ kk : Int, 0 + ((k : Nat) : Int) = kk ∧ 0 ≤ kk ∧ kk ≤ 4 := ⟨_, rfl, by omega, by omega⟩
    rw [hkk]
    obtain ⟨c, hc⟩ := gcell (j := 3 + 2 * kk) (by omega)
    obtain ⟨c', hc'⟩ := gcell (j := 4 + 2 * kk) (by omega)
    obtain ⟨p, e, hp'⟩ := side_ok c c'
    have w : L2.CMulW 2 kk := mulW 10 10 (by decide) (by omega) (by decide)
    refine ⟨p, hp', _, [some (.cst scr), some (.int M), some (.int g), none, some (.int kk), none, none, none, none, none, none, none, none, none], x_gN, ?_, rfl⟩
    generalize spD p = P at *
    simp (disch := decide) only [x_seq, x_seq1, x_seq2, x_seq3, x_seq4, x_seq5, x_seq6, x_nil, x_if, x_if1, x_if2, x_if3, x_ret, x_ret1, x_ret2, x_ret3, x_retN, x_asg, x_asg1, x_asg2, x_asg3, x_asg4, x_asg5, x_gN, x_drop, x_drop1, x_drop2, x_bk, x_ct, x_raise, x_tZ, x_tZ1, x_tZ2, x_tE, x_tE1, x_tE2, x_tE3, x_tAnd, x_tAnd1, x_tAnd2, x_tAnd3, x_tOr, x_tOr1, x_tOr2, x_tOr3, x_tNot, x_tNot1, x_tNot2, x_tNot3, x_tTrue, x_z2, x_z21, x_z1, x_z11, x_zC, x_zC1, x_za, x_za1, x_za0, x_zV, x_zK, x_ch, x_ch1, x_ch2, x_eZ, x_eZ1, x_eZ2, x_eV, x_eV1, x_eM, x_eM1, x_b1, x_b2, x_b3, x_s1, x_s2, x_s3, x_oO, x_oO2, x_e2, x_e1, x_eC, x_aN, x_aC, x_tup, x_lst, x_call, x_oC1, x_oC2, x_call0, x_call01, x_eAnd, x_eAnd1, x_eOr, x_eOr1, x_eNot, x_eNot1, x_eIf, x_eIf1, x_fz_int, x_fr_int, x_fz_bl, x_fr_bl, x_fz_str, x_fr_str, x_fz_ty, x_fr_ty, x_fz_tup, x_fr_tup, x_fz_cst, x_fr_cst, x_fz_lst_false, x_fr_lst_false, x_fz_non, x_fr_non, x_fz_lt, x_fr_lt, x_fL0, x_fL1, x_cF, x_cR1, x_cR2, x_cR3, x_iL, x_iL1, x_iT, x_iT1, x_iS, x_iS1, x_iR1, x_iR11, x_iR2, x_iR21, x_iE, x_iE1, x_iV, x_iV1, x_iZ, x_iZ1, x_for, x_fo0, x_fo1, x_fo2, x_fo3, x_fo4, x_fo5, x_fo6, x_fo7, x_gT, x_gC, x_gC0, x_try, x_try1, x_try2, x_try3, x_try4, x_try5, x_nx1, x_nx2, x_try6, x_try7, x_nx3, x_nx4, x_app, x_app1, x_app2, x_lc, x_lcE, x_lc0, x_lc1, x_lcG, x_w0, x_w1, vMinL4, vMaxL4, vAll3, vAny3, vAll4, vAny4, x_wh1, x_wh2, x_wh0, x_abs, vI_ii, vI_ib, vI_it, vI_il, vI_is, vI_bb, vI_bi, vI_tt, vI_tl, vI_ti, vI_ll, vI_lt, vI_ss, vEqB, vNeB, x_ta, x_ta1, x_ta2, x_ta3, x_ta4, x_ta5, x_is, nc_0, nc_1, nc_2, nc_3, nc_4, nc_5, nc_6, nc_7, nc_8, nc_9, nc_10, nc_11, vMax2, vMin2, vIsN0, vIsN1, vNotN0, vNotN1, vIsN2, vNotN2, x_lo, x_lo1, x_lo2, vAll2, vAny2, x_sl, x_sl1, x_sl2, x_pn, x_ps, x_ps1, x_cutL, x_cutC, vEqS, vNeS, x_fz_obj, x_fr_obj, x_make, x_meth, x_meth2, x_meth3, x_isO, x_isO1, x_cat, x_cat1, x_methZ, x_methZ2, x_methZ3, x_callZ, x_callZ1, x_lend1, x_lend2, x_cl_int, x_cl_bl, x_cl_str, x_cl_non, x_cl_tup, x_cl0, x_cl1, x_cl_lst, x_setIx, x_setIx1, x_setIx2, x_callI, x_callI1, x_callI2, x_callI3, x_take0, x_take1, x_take2, x_put0, x_put1, x_cFI, x_cRI1, x_cRI2, x_outR, x_outR1, x_out1, x_out2, x_par, x_par1, x_sort, x_sort1, x_sort2, x_io2, x_io4, vIsB, x_pop, x_lr, x_lr1, x_clr, x_clr1, x_clrE, x_clrE1, x_pop1, x_pop2, x_ins, x_ins1, x_ins2, List.all_cons, List.all_nil, Option.isSome_some, Option.map_some, List.getD_cons_zero, List.getD_cons_succ, List.set_cons_zero, List.set_cons_succ, List.map_cons, List.map_nil, List.replicate_zero, List.replicate_succ, List.length_cons, List.length_nil, List.cons_append, List.nil_append, Option.bind_some, if_true, if_false, Bool.false_eq_true, Nat.reduceSub, Nat.reduceAdd, Nat.reduceLeDiff, Nat.reduceLT, vAdd, vSub, vLt, vLe, vGt, vGe, vNeg, vEq, vNe, vEq2, vNe2, vMod, vDiv, vMul, vPow, Int.reduceToNat, vIx0, vIx1, vLenT, vLenC, vLenL, reduceIte, decide_true, decide_false, Bool.not_true, Bool.not_false, beq_self_eq_true, Bool.and_true, Bool.true_and, Bool.and_self, Bool.and_false, Bool.false_and, vMul w, hc, hc', e]
  obtain ⟨F, hF⟩ := pick key
  refine ⟨(List.range m).map F, ?_, by simp; omega, fun p hp => ?_⟩
  · rw [List.map_map]
    exact lc_rng (own := [4]) (τ := [some (.cst scr), some (.int M), some (.int g), none, none, none, none, none, none, none, none, none, none, none]) (i := 1) (fun k => spD (F k)) rfl hm (by omega) (by omega) rfl (fun k hk => (hF k hk).2)
  · obtain ⟨k, hk, rfl⟩ := List.mem_map.mp hp
    exact (hF k (List.mem_range.mp hk)).1
theorem heavy_ok {scr B : List D} {M g : Int} {us : List Nd} (hl : us.length ≤ 4) : c_law_2 [some (.cst scr), some (.int M), some (.int g), some (.lst true B), none, some (.lst true (us.map Nd.d)), none, none, none, none, none, none, none, none] = .ok (.lst true ((List.replicate us.length (1 : Int)).map D.int)) [some (.cst scr), some (.int M), some (.int g), some (.lst true B), none, some (.lst true (us.map Nd.d)), none, none, none, none, none, none, none, none] := by
  have hz : (us.map Nd.d).all isFz = true := by
    rw [List.all_eq_true]
    intro d hd
    obtain ⟨n, _, rfl⟩ := List.mem_map.mp hd
    exact n.fz
  obtain ⟨es, ha, e⟩ := lc_all (g := gN 7) (own := [7]) (m := eZ (zC (.int 1))) (fun _ e => e = .int 1) [some (.cst scr), some (.int M), some (.int g), some (.lst true B), none, none, none, none, none, none, none, none, none, none] (us.map Nd.d) [] (by rw [List.length_map, List.length_nil]; omega) (fun d hd => by
    refine ⟨.int 1, [some (.cst scr), some (.int M), some (.int g), some (.lst true B), none, none, none, some d, none, none, none, none, none, none], [some (.cst scr), some (.int M), some (.int g), some (.lst true B), none, none, none, some d, none, none, none, none, none, none], x_gN, ?_, rfl, rfl⟩
    simp only [x_seq, x_seq1, x_seq2, x_seq3, x_seq4, x_seq5, x_seq6, x_nil, x_if, x_if1, x_if2, x_if3, x_ret, x_ret1, x_ret2, x_ret3, x_retN, x_asg, x_asg1, x_asg2, x_asg3, x_asg4, x_asg5, x_gN, x_drop, x_drop1, x_drop2, x_bk, x_ct, x_raise, x_tZ, x_tZ1, x_tZ2, x_tE, x_tE1, x_tE2, x_tE3, x_tAnd, x_tAnd1, x_tAnd2, x_tAnd3, x_tOr, x_tOr1, x_tOr2, x_tOr3, x_tNot, x_tNot1, x_tNot2, x_tNot3, x_tTrue, x_z2, x_z21, x_z1, x_z11, x_zC, x_zC1, x_za, x_za1, x_za0, x_zV, x_zK, x_ch, x_ch1, x_ch2, x_eZ, x_eZ1, x_eZ2, x_eV, x_eV1, x_eM, x_eM1, x_b1, x_b2, x_b3, x_s1, x_s2, x_s3, x_oO, x_oO2, x_e2, x_e1, x_eC, x_aN, x_aC, x_tup, x_lst, x_call, x_oC1, x_oC2, x_call0, x_call01, x_eAnd, x_eAnd1, x_eOr, x_eOr1, x_eNot, x_eNot1, x_eIf, x_eIf1, x_fz_int, x_fr_int, x_fz_bl, x_fr_bl, x_fz_str, x_fr_str, x_fz_ty, x_fr_ty, x_fz_tup, x_fr_tup, x_fz_cst, x_fr_cst, x_fz_lst_false, x_fr_lst_false, x_fz_non, x_fr_non, x_fz_lt, x_fr_lt, x_fL0, x_fL1, x_cF, x_cR1, x_cR2, x_cR3, x_iL, x_iL1, x_iT, x_iT1, x_iS, x_iS1, x_iR1, x_iR11, x_iR2, x_iR21, x_iE, x_iE1, x_iV, x_iV1, x_iZ, x_iZ1, x_for, x_fo0, x_fo1, x_fo2, x_fo3, x_fo4, x_fo5, x_fo6, x_fo7, x_gT, x_gC, x_gC0, x_try, x_try1, x_try2, x_try3, x_try4, x_try5, x_nx1, x_nx2, x_try6, x_try7, x_nx3, x_nx4, x_app, x_app1, x_app2, x_lc, x_lcE, x_lc0, x_lc1, x_lcG, x_w0, x_w1, vMinL4, vMaxL4, vAll3, vAny3, vAll4, vAny4, x_wh1, x_wh2, x_wh0, x_abs, vI_ii, vI_ib, vI_it, vI_il, vI_is, vI_bb, vI_bi, vI_tt, vI_tl, vI_ti, vI_ll, vI_lt, vI_ss, vEqB, vNeB, x_ta, x_ta1, x_ta2, x_ta3, x_ta4, x_ta5, x_is, nc_0, nc_1, nc_2, nc_3, nc_4, nc_5, nc_6, nc_7, nc_8, nc_9, nc_10, nc_11, vMax2, vMin2, vIsN0, vIsN1, vNotN0, vNotN1, vIsN2, vNotN2, x_lo, x_lo1, x_lo2, vAll2, vAny2, x_sl, x_sl1, x_sl2, x_pn, x_ps, x_ps1, x_cutL, x_cutC, vEqS, vNeS, x_fz_obj, x_fr_obj, x_make, x_meth, x_meth2, x_meth3, x_isO, x_isO1, x_cat, x_cat1, x_methZ, x_methZ2, x_methZ3, x_callZ, x_callZ1, x_lend1, x_lend2, x_cl_int, x_cl_bl, x_cl_str, x_cl_non, x_cl_tup, x_cl0, x_cl1, x_cl_lst, x_setIx, x_setIx1, x_setIx2, x_callI, x_callI1, x_callI2, x_callI3, x_take0, x_take1, x_take2, x_put0, x_put1, x_cFI, x_cRI1, x_cRI2, x_outR, x_outR1, x_out1, x_out2, x_par, x_par1, x_sort, x_sort1, x_sort2, x_io2, x_io4, vIsB, x_pop, x_lr, x_lr1, x_clr, x_clr1, x_clrE, x_clrE1, x_pop1, x_pop2, x_ins, x_ins1, x_ins2, List.all_cons, List.all_nil, Option.isSome_some, Option.map_some, List.getD_cons_zero, List.getD_cons_succ, List.set_cons_zero, List.set_cons_succ, List.map_cons, List.map_nil, List.replicate_zero, List.replicate_succ, List.length_cons, List.length_nil, List.cons_append, List.nil_append, Option.bind_some, if_true, if_false, Bool.false_eq_true, Nat.reduceSub, Nat.reduceAdd, Nat.reduceLeDiff, Nat.reduceLT, vAdd, vSub, vLt, vLe, vGt, vGe, vNeg, vEq, vNe, vEq2, vNe2, vMod, vDiv, vMul, vPow, Int.reduceToNat, vIx0, vIx1, vLenT, vLenC, vLenL, reduceIte, decide_true, decide_false, Bool.not_true, Bool.not_false, beq_self_eq_true, Bool.and_true, Bool.true_and, Bool.and_self, Bool.and_false, Bool.false_and])
  rw [List.nil_append] at e
  have gen : ∀ {xs ys : List D}, All2 (fun _ e => e = .int 1) xs ys → ys = (List.replicate xs.length (1 : Int)).map D.int := fun {xs ys} => by
    induction xs generalizing ys with
    | nil => intro h; cases ys with
      | nil => rfl
      | cons _ _ => exact h.elim
    | cons x xs ih => intro h; cases ys with
      | nil => exact h.elim
      | cons y ys => rw [h.1, ih h.2, List.length_cons, List.replicate_succ, List.map_cons]
  have e2 := gen ha
  rw [List.length_map] at e2
  rw [e2] at e
  exact lcB_ok (i := 5) (own := [7]) (es := us.map Nd.d) (τ' := [some (.cst scr), some (.int M), some (.int g), some (.lst true B), none, none, none, none, none, none, none, none, none, none]) rfl hz e
/-- from the grown net on -/
theorem tail_ok {scr : List D} {M g : Int} {m : Nat} (hMi : M.toNat = m) (M0 : 1 ≤ M) (M4 : M ≤ 4) (g1 : 1 ≤ g) (g2 : g ≤ 1000000) {ns : List Nd} {ws : List Int} (hN : Net M ns ws) (nl : ns.length ≤ 100) {bs : List (Int × Int)} (hM : M = bs.length) (hb : ∀ p ∈ bs, SpB p) (x7 : Option D) :
    ∃ τ', u_law_6 [some (.cst scr), some (.int M), some (.int g), some (.lst true (bs.map spD)), none, some (.lst true (ns.map Nd.d)), some (.lst true (ws.map D.int)), none, x7, none, none, none, none, none] = .rt (.bl true) τ' := by
  obtain ⟨es, els, hG⟩ := slopes_ok hN hMi (by omega) (by omega) hM hb g1 g2 (by omega)
  have ew := (worths_ok hN hM hb g1 g2 (by omega)).2
  have fN := nds_fz ns
  have fB := fz_sp bs
  have fW := fz_sp (runW bs g ns [])
  have fR := fz_rows (runS (runW bs g ns []) g m ns []) true
  have lk := lists_ok hG (by rw [runS_len, List.length_nil]; omega)
  have own : ((runS (runW bs g ns []) g m ns []).map (rwD true)).all isOwnL = true := by
    rw [List.all_eq_true]
    intro d hd
    obtain ⟨r, _, rfl⟩ := List.mem_map.mp hd
    rfl
  have n1 : gNe (.lst false (ns.map Nd.d)) (.lst false (ns.map Nd.d)) = some (.bl false) := vNeX (nds_Ok ns false) (nds_Ok ns false) rfl
  have n2 : gNe (.lst false (bs.map spD)) (.lst false (bs.map spD)) = some (.bl false) := vNeX (sps_Ok bs false) (sps_Ok bs false) rfl
  clear hG hN hb hM
  generalize (runS (runW bs g ns []) g m ns []).map (rwD true) = RT at *
  generalize (runS (runW bs g ns []) g m ns []).map (rwD false) = RF at *
  generalize (runW bs g ns []).map spD = Wo at *
  generalize ns.map Nd.d = S at *
  generalize bs.map spD = B at *
  generalize ws.map D.int = Ww at *
  refine ⟨_, x_seq_ok (τ1 := [some (.cst scr), some (.int M), some (.int g), some (.lst false B), none, some (.lst false S), some (.lst true Ww), none, x7, some (.lst true RT), none, none, none, none]) ?_ (x_seq_ok (τ1 := [some (.cst scr), some (.int M), some (.int g), some (.lst false B), none, some (.lst false S), some (.lst true Ww), none, x7, some (.lst true RT), some (.lst true S), none, none, none]) ?_ (x_seq_ok (τ1 := [some (.cst scr), some (.int M), some (.int g), some (.lst false B), none, some (.lst false S), some (.lst true Ww), none, x7, some (.lst true RT), some (.lst true S), some (.lst true B), none, none]) ?_ (x_seq_ok (τ1 := [some (.cst scr), some (.int M), some (.int g), some (.lst false B), none, some (.lst false S), some (.lst true Ww), none, x7, some (.lst true RT), some (.lst false S), some (.lst false B), some (.lst true RT), none]) ?_ (x_seq_ok (τ1 := [some (.cst scr), some (.int M), some (.int g), some (.lst false B), none, some (.lst false S), some (.lst true Ww), none, x7, some (.lst true RT), some (.lst false S), some (.lst false B), some (.lst true RT), none]) ?_ (x_seq_ok (τ1 := [some (.cst scr), some (.int M), some (.int g), some (.lst false B), none, some (.lst false S), some (.lst true Ww), none, x7, some (.lst true RT), some (.lst false S), some (.lst false B), some (.lst true (clrL RT.length RT)), none]) ?_ (x_seq_ok (τ1 := [some (.cst scr), some (.int M), some (.int g), some (.lst false B), none, some (.lst false S), some (.lst true Ww), none, x7, some (.lst true RT), some (.lst false S), some (.lst false B), some (.lst true []), none]) ?_ (show _ = SR.rt _ [some (.cst scr), some (.int M), some (.int g), some (.lst false B), none, some (.lst false S), some (.lst true Ww), none, x7, some (.lst false RF), some (.lst false S), some (.lst false B), some (.lst true []), none] from ?_)))))))⟩
  · simp only [x_seq, x_seq1, x_seq2, x_seq3, x_seq4, x_seq5, x_seq6, x_nil, x_if, x_if1, x_if2, x_if3, x_ret, x_ret1, x_ret2, x_ret3, x_retN, x_asg, x_asg1, x_asg2, x_asg3, x_asg4, x_asg5, x_gN, x_drop, x_drop1, x_drop2, x_bk, x_ct, x_raise, x_tZ, x_tZ1, x_tZ2, x_tE, x_tE1, x_tE2, x_tE3, x_tAnd, x_tAnd1, x_tAnd2, x_tAnd3, x_tOr, x_tOr1, x_tOr2, x_tOr3, x_tNot, x_tNot1, x_tNot2, x_tNot3, x_tTrue, x_z2, x_z21, x_z1, x_z11, x_zC, x_zC1, x_za, x_za1, x_za0, x_zV, x_zK, x_ch, x_ch1, x_ch2, x_eZ, x_eZ1, x_eZ2, x_eV, x_eV1, x_eM, x_eM1, x_b1, x_b2, x_b3, x_s1, x_s2, x_s3, x_oO, x_oO2, x_e2, x_e1, x_eC, x_aN, x_aC, x_tup, x_lst, x_call, x_oC1, x_oC2, x_call0, x_call01, x_eAnd, x_eAnd1, x_eOr, x_eOr1, x_eNot, x_eNot1, x_eIf, x_eIf1, x_fz_int, x_fr_int, x_fz_bl, x_fr_bl, x_fz_str, x_fr_str, x_fz_ty, x_fr_ty, x_fz_tup, x_fr_tup, x_fz_cst, x_fr_cst, x_fz_lst_false, x_fr_lst_false, x_fz_non, x_fr_non, x_fz_lt, x_fr_lt, x_fL0, x_fL1, x_cF, x_cR1, x_cR2, x_cR3, x_iL, x_iL1, x_iT, x_iT1, x_iS, x_iS1, x_iR1, x_iR11, x_iR2, x_iR21, x_iE, x_iE1, x_iV, x_iV1, x_iZ, x_iZ1, x_for, x_fo0, x_fo1, x_fo2, x_fo3, x_fo4, x_fo5, x_fo6, x_fo7, x_gT, x_gC, x_gC0, x_try, x_try1, x_try2, x_try3, x_try4, x_try5, x_nx1, x_nx2, x_try6, x_try7, x_nx3, x_nx4, x_app, x_app1, x_app2, x_lc, x_lcE, x_lc0, x_lc1, x_lcG, x_w0, x_w1, vMinL4, vMaxL4, vAll3, vAny3, vAll4, vAny4, x_wh1, x_wh2, x_wh0, x_abs, vI_ii, vI_ib, vI_it, vI_il, vI_is, vI_bb, vI_bi, vI_tt, vI_tl, vI_ti, vI_ll, vI_lt, vI_ss, vEqB, vNeB, x_ta, x_ta1, x_ta2, x_ta3, x_ta4, x_ta5, x_is, nc_0, nc_1, nc_2, nc_3, nc_4, nc_5, nc_6, nc_7, nc_8, nc_9, nc_10, nc_11, vMax2, vMin2, vIsN0, vIsN1, vNotN0, vNotN1, vIsN2, vNotN2, x_lo, x_lo1, x_lo2, vAll2, vAny2, x_sl, x_sl1, x_sl2, x_pn, x_ps, x_ps1, x_cutL, x_cutC, vEqS, vNeS, x_fz_obj, x_fr_obj, x_make, x_meth, x_meth2, x_meth3, x_isO, x_isO1, x_cat, x_cat1, x_methZ, x_methZ2, x_methZ3, x_callZ, x_callZ1, x_lend1, x_lend2, x_cl_int, x_cl_bl, x_cl_str, x_cl_non, x_cl_tup, x_cl0, x_cl1, x_cl_lst, x_setIx, x_setIx1, x_setIx2, x_callI, x_callI1, x_callI2, x_callI3, x_take0, x_take1, x_take2, x_put0, x_put1, x_cFI, x_cRI1, x_cRI2, x_outR, x_outR1, x_out1, x_out2, x_par, x_par1, x_sort, x_sort1, x_sort2, x_io2, x_io4, vIsB, x_pop, x_lr, x_lr1, x_clr, x_clr1, x_clrE, x_clrE1, x_pop1, x_pop2, x_ins, x_ins1, x_ins2, List.all_cons, List.all_nil, Option.isSome_some, Option.map_some, List.getD_cons_zero, List.getD_cons_succ, List.set_cons_zero, List.set_cons_succ, List.map_cons, List.map_nil, List.replicate_zero, List.replicate_succ, List.length_cons, List.length_nil, List.cons_append, List.nil_append, Option.bind_some, if_true, if_false, Bool.false_eq_true, Nat.reduceSub, Nat.reduceAdd, Nat.reduceLeDiff, Nat.reduceLT, vAdd, vSub, vLt, vLe, vGt, vGe, vNeg, vEq, vNe, vEq2, vNe2, vMod, vDiv, vMul, vPow, Int.reduceToNat, vIx0, vIx1, vLenT, vLenC, vLenL, reduceIte, decide_true, decide_false, Bool.not_true, Bool.not_false, beq_self_eq_true, Bool.and_true, Bool.true_and, Bool.and_self, Bool.and_false, Bool.false_and, fN, fB, fW, ew, els]
  · simp only [x_seq, x_seq1, x_seq2, x_seq3, x_seq4, x_seq5, x_seq6, x_nil, x_if, x_if1, x_if2, x_if3, x_ret, x_ret1, x_ret2, x_ret3, x_retN, x_asg, x_asg1, x_asg2, x_asg3, x_asg4, x_asg5, x_gN, x_drop, x_drop1, x_drop2, x_bk, x_ct, x_raise, x_tZ, x_tZ1, x_tZ2, x_tE, x_tE1, x_tE2, x_tE3, x_tAnd, x_tAnd1, x_tAnd2, x_tAnd3, x_tOr, x_tOr1, x_tOr2, x_tOr3, x_tNot, x_tNot1, x_tNot2, x_tNot3, x_tTrue, x_z2, x_z21, x_z1, x_z11, x_zC, x_zC1, x_za, x_za1, x_za0, x_zV, x_zK, x_ch, x_ch1, x_ch2, x_eZ, x_eZ1, x_eZ2, x_eV, x_eV1, x_eM, x_eM1, x_b1, x_b2, x_b3, x_s1, x_s2, x_s3, x_oO, x_oO2, x_e2, x_e1, x_eC, x_aN, x_aC, x_tup, x_lst, x_call, x_oC1, x_oC2, x_call0, x_call01, x_eAnd, x_eAnd1, x_eOr, x_eOr1, x_eNot, x_eNot1, x_eIf, x_eIf1, x_fz_int, x_fr_int, x_fz_bl, x_fr_bl, x_fz_str, x_fr_str, x_fz_ty, x_fr_ty, x_fz_tup, x_fr_tup, x_fz_cst, x_fr_cst, x_fz_lst_false, x_fr_lst_false, x_fz_non, x_fr_non, x_fz_lt, x_fr_lt, x_fL0, x_fL1, x_cF, x_cR1, x_cR2, x_cR3, x_iL, x_iL1, x_iT, x_iT1, x_iS, x_iS1, x_iR1, x_iR11, x_iR2, x_iR21, x_iE, x_iE1, x_iV, x_iV1, x_iZ, x_iZ1, x_for, x_fo0, x_fo1, x_fo2, x_fo3, x_fo4, x_fo5, x_fo6, x_fo7, x_gT, x_gC, x_gC0, x_try, x_try1, x_try2, x_try3, x_try4, x_try5, x_nx1, x_nx2, x_try6, x_try7, x_nx3, x_nx4, x_app, x_app1, x_app2, x_lc, x_lcE, x_lc0, x_lc1, x_lcG, x_w0, x_w1, vMinL4, vMaxL4, vAll3, vAny3, vAll4, vAny4, x_wh1, x_wh2, x_wh0, x_abs, vI_ii, vI_ib, vI_it, vI_il, vI_is, vI_bb, vI_bi, vI_tt, vI_tl, vI_ti, vI_ll, vI_lt, vI_ss, vEqB, vNeB, x_ta, x_ta1, x_ta2, x_ta3, x_ta4, x_ta5, x_is, nc_0, nc_1, nc_2, nc_3, nc_4, nc_5, nc_6, nc_7, nc_8, nc_9, nc_10, nc_11, vMax2, vMin2, vIsN0, vIsN1, vNotN0, vNotN1, vIsN2, vNotN2, x_lo, x_lo1, x_lo2, vAll2, vAny2, x_sl, x_sl1, x_sl2, x_pn, x_ps, x_ps1, x_cutL, x_cutC, vEqS, vNeS, x_fz_obj, x_fr_obj, x_make, x_meth, x_meth2, x_meth3, x_isO, x_isO1, x_cat, x_cat1, x_methZ, x_methZ2, x_methZ3, x_callZ, x_callZ1, x_lend1, x_lend2, x_cl_int, x_cl_bl, x_cl_str, x_cl_non, x_cl_tup, x_cl0, x_cl1, x_cl_lst, x_setIx, x_setIx1, x_setIx2, x_callI, x_callI1, x_callI2, x_callI3, x_take0, x_take1, x_take2, x_put0, x_put1, x_cFI, x_cRI1, x_cRI2, x_outR, x_outR1, x_out1, x_out2, x_par, x_par1, x_sort, x_sort1, x_sort2, x_io2, x_io4, vIsB, x_pop, x_lr, x_lr1, x_clr, x_clr1, x_clrE, x_clrE1, x_pop1, x_pop2, x_ins, x_ins1, x_ins2, List.all_cons, List.all_nil, Option.isSome_some, Option.map_some, List.getD_cons_zero, List.getD_cons_succ, List.set_cons_zero, List.set_cons_succ, List.map_cons, List.map_nil, List.replicate_zero, List.replicate_succ, List.length_cons, List.length_nil, List.cons_append, List.nil_append, Option.bind_some, if_true, if_false, Bool.false_eq_true, Nat.reduceSub, Nat.reduceAdd, Nat.reduceLeDiff, Nat.reduceLT, vAdd, vSub, vLt, vLe, vGt, vGe, vNeg, vEq, vNe, vEq2, vNe2, vMod, vDiv, vMul, vPow, Int.reduceToNat, vIx0, vIx1, vLenT, vLenC, vLenL, reduceIte, decide_true, decide_false, Bool.not_true, Bool.not_false, beq_self_eq_true, Bool.and_true, Bool.true_and, Bool.and_self, Bool.and_false, Bool.false_and]
  · simp only [x_seq, x_seq1, x_seq2, x_seq3, x_seq4, x_seq5, x_seq6, x_nil, x_if, x_if1, x_if2, x_if3, x_ret, x_ret1, x_ret2, x_ret3, x_retN, x_asg, x_asg1, x_asg2, x_asg3, x_asg4, x_asg5, x_gN, x_drop, x_drop1, x_drop2, x_bk, x_ct, x_raise, x_tZ, x_tZ1, x_tZ2, x_tE, x_tE1, x_tE2, x_tE3, x_tAnd, x_tAnd1, x_tAnd2, x_tAnd3, x_tOr, x_tOr1, x_tOr2, x_tOr3, x_tNot, x_tNot1, x_tNot2, x_tNot3, x_tTrue, x_z2, x_z21, x_z1, x_z11, x_zC, x_zC1, x_za, x_za1, x_za0, x_zV, x_zK, x_ch, x_ch1, x_ch2, x_eZ, x_eZ1, x_eZ2, x_eV, x_eV1, x_eM, x_eM1, x_b1, x_b2, x_b3, x_s1, x_s2, x_s3, x_oO, x_oO2, x_e2, x_e1, x_eC, x_aN, x_aC, x_tup, x_lst, x_call, x_oC1, x_oC2, x_call0, x_call01, x_eAnd, x_eAnd1, x_eOr, x_eOr1, x_eNot, x_eNot1, x_eIf, x_eIf1, x_fz_int, x_fr_int, x_fz_bl, x_fr_bl, x_fz_str, x_fr_str, x_fz_ty, x_fr_ty, x_fz_tup, x_fr_tup, x_fz_cst, x_fr_cst, x_fz_lst_false, x_fr_lst_false, x_fz_non, x_fr_non, x_fz_lt, x_fr_lt, x_fL0, x_fL1, x_cF, x_cR1, x_cR2, x_cR3, x_iL, x_iL1, x_iT, x_iT1, x_iS, x_iS1, x_iR1, x_iR11, x_iR2, x_iR21, x_iE, x_iE1, x_iV, x_iV1, x_iZ, x_iZ1, x_for, x_fo0, x_fo1, x_fo2, x_fo3, x_fo4, x_fo5, x_fo6, x_fo7, x_gT, x_gC, x_gC0, x_try, x_try1, x_try2, x_try3, x_try4, x_try5, x_nx1, x_nx2, x_try6, x_try7, x_nx3, x_nx4, x_app, x_app1, x_app2, x_lc, x_lcE, x_lc0, x_lc1, x_lcG, x_w0, x_w1, vMinL4, vMaxL4, vAll3, vAny3, vAll4, vAny4, x_wh1, x_wh2, x_wh0, x_abs, vI_ii, vI_ib, vI_it, vI_il, vI_is, vI_bb, vI_bi, vI_tt, vI_tl, vI_ti, vI_ll, vI_lt, vI_ss, vEqB, vNeB, x_ta, x_ta1, x_ta2, x_ta3, x_ta4, x_ta5, x_is, nc_0, nc_1, nc_2, nc_3, nc_4, nc_5, nc_6, nc_7, nc_8, nc_9, nc_10, nc_11, vMax2, vMin2, vIsN0, vIsN1, vNotN0, vNotN1, vIsN2, vNotN2, x_lo, x_lo1, x_lo2, vAll2, vAny2, x_sl, x_sl1, x_sl2, x_pn, x_ps, x_ps1, x_cutL, x_cutC, vEqS, vNeS, x_fz_obj, x_fr_obj, x_make, x_meth, x_meth2, x_meth3, x_isO, x_isO1, x_cat, x_cat1, x_methZ, x_methZ2, x_methZ3, x_callZ, x_callZ1, x_lend1, x_lend2, x_cl_int, x_cl_bl, x_cl_str, x_cl_non, x_cl_tup, x_cl0, x_cl1, x_cl_lst, x_setIx, x_setIx1, x_setIx2, x_callI, x_callI1, x_callI2, x_callI3, x_take0, x_take1, x_take2, x_put0, x_put1, x_cFI, x_cRI1, x_cRI2, x_outR, x_outR1, x_out1, x_out2, x_par, x_par1, x_sort, x_sort1, x_sort2, x_io2, x_io4, vIsB, x_pop, x_lr, x_lr1, x_clr, x_clr1, x_clrE, x_clrE1, x_pop1, x_pop2, x_ins, x_ins1, x_ins2, List.all_cons, List.all_nil, Option.isSome_some, Option.map_some, List.getD_cons_zero, List.getD_cons_succ, List.set_cons_zero, List.set_cons_succ, List.map_cons, List.map_nil, List.replicate_zero, List.replicate_succ, List.length_cons, List.length_nil, List.cons_append, List.nil_append, Option.bind_some, if_true, if_false, Bool.false_eq_true, Nat.reduceSub, Nat.reduceAdd, Nat.reduceLeDiff, Nat.reduceLT, vAdd, vSub, vLt, vLe, vGt, vGe, vNeg, vEq, vNe, vEq2, vNe2, vMod, vDiv, vMul, vPow, Int.reduceToNat, vIx0, vIx1, vLenT, vLenC, vLenL, reduceIte, decide_true, decide_false, Bool.not_true, Bool.not_false, beq_self_eq_true, Bool.and_true, Bool.true_and, Bool.and_self, Bool.and_false, Bool.false_and]
  · simp only [x_seq, x_seq1, x_seq2, x_seq3, x_seq4, x_seq5, x_seq6, x_nil, x_if, x_if1, x_if2, x_if3, x_ret, x_ret1, x_ret2, x_ret3, x_retN, x_asg, x_asg1, x_asg2, x_asg3, x_asg4, x_asg5, x_gN, x_drop, x_drop1, x_drop2, x_bk, x_ct, x_raise, x_tZ, x_tZ1, x_tZ2, x_tE, x_tE1, x_tE2, x_tE3, x_tAnd, x_tAnd1, x_tAnd2, x_tAnd3, x_tOr, x_tOr1, x_tOr2, x_tOr3, x_tNot, x_tNot1, x_tNot2, x_tNot3, x_tTrue, x_z2, x_z21, x_z1, x_z11, x_zC, x_zC1, x_za, x_za1, x_za0, x_zV, x_zK, x_ch, x_ch1, x_ch2, x_eZ, x_eZ1, x_eZ2, x_eV, x_eV1, x_eM, x_eM1, x_b1, x_b2, x_b3, x_s1, x_s2, x_s3, x_oO, x_oO2, x_e2, x_e1, x_eC, x_aN, x_aC, x_tup, x_lst, x_call, x_oC1, x_oC2, x_call0, x_call01, x_eAnd, x_eAnd1, x_eOr, x_eOr1, x_eNot, x_eNot1, x_eIf, x_eIf1, x_fz_int, x_fr_int, x_fz_bl, x_fr_bl, x_fz_str, x_fr_str, x_fz_ty, x_fr_ty, x_fz_tup, x_fr_tup, x_fz_cst, x_fr_cst, x_fz_lst_false, x_fr_lst_false, x_fz_non, x_fr_non, x_fz_lt, x_fr_lt, x_fL0, x_fL1, x_cF, x_cR1, x_cR2, x_cR3, x_iL, x_iL1, x_iT, x_iT1, x_iS, x_iS1, x_iR1, x_iR11, x_iR2, x_iR21, x_iE, x_iE1, x_iV, x_iV1, x_iZ, x_iZ1, x_for, x_fo0, x_fo1, x_fo2, x_fo3, x_fo4, x_fo5, x_fo6, x_fo7, x_gT, x_gC, x_gC0, x_try, x_try1, x_try2, x_try3, x_try4, x_try5, x_nx1, x_nx2, x_try6, x_try7, x_nx3, x_nx4, x_app, x_app1, x_app2, x_lc, x_lcE, x_lc0, x_lc1, x_lcG, x_w0, x_w1, vMinL4, vMaxL4, vAll3, vAny3, vAll4, vAny4, x_wh1, x_wh2, x_wh0, x_abs, vI_ii, vI_ib, vI_it, vI_il, vI_is, vI_bb, vI_bi, vI_tt, vI_tl, vI_ti, vI_ll, vI_lt, vI_ss, vEqB, vNeB, x_ta, x_ta1, x_ta2, x_ta3, x_ta4, x_ta5, x_is, nc_0, nc_1, nc_2, nc_3, nc_4, nc_5, nc_6, nc_7, nc_8, nc_9, nc_10, nc_11, vMax2, vMin2, vIsN0, vIsN1, vNotN0, vNotN1, vIsN2, vNotN2, x_lo, x_lo1, x_lo2, vAll2, vAny2, x_sl, x_sl1, x_sl2, x_pn, x_ps, x_ps1, x_cutL, x_cutC, vEqS, vNeS, x_fz_obj, x_fr_obj, x_make, x_meth, x_meth2, x_meth3, x_isO, x_isO1, x_cat, x_cat1, x_methZ, x_methZ2, x_methZ3, x_callZ, x_callZ1, x_lend1, x_lend2, x_cl_int, x_cl_bl, x_cl_str, x_cl_non, x_cl_tup, x_cl0, x_cl1, x_cl_lst, x_setIx, x_setIx1, x_setIx2, x_callI, x_callI1, x_callI2, x_callI3, x_take0, x_take1, x_take2, x_put0, x_put1, x_cFI, x_cRI1, x_cRI2, x_outR, x_outR1, x_out1, x_out2, x_par, x_par1, x_sort, x_sort1, x_sort2, x_io2, x_io4, vIsB, x_pop, x_lr, x_lr1, x_clr, x_clr1, x_clrE, x_clrE1, x_pop1, x_pop2, x_ins, x_ins1, x_ins2, List.all_cons, List.all_nil, Option.isSome_some, Option.map_some, List.getD_cons_zero, List.getD_cons_succ, List.set_cons_zero, List.set_cons_succ, List.map_cons, List.map_nil, List.replicate_zero, List.replicate_succ, List.length_cons, List.length_nil, List.cons_append, List.nil_append, Option.bind_some, if_true, if_false, Bool.false_eq_true, Nat.reduceSub, Nat.reduceAdd, Nat.reduceLeDiff, Nat.reduceLT, vAdd, vSub, vLt, vLe, vGt, vGe, vNeg, vEq, vNe, vEq2, vNe2, vMod, vDiv, vMul, vPow, Int.reduceToNat, vIx0, vIx1, vLenT, vLenC, vLenL, reduceIte, decide_true, decide_false, Bool.not_true, Bool.not_false, beq_self_eq_true, Bool.and_true, Bool.true_and, Bool.and_self, Bool.and_false, Bool.false_and, fN, fB, es]
  · simp only [x_seq, x_seq1, x_seq2, x_seq3, x_seq4, x_seq5, x_seq6, x_nil, x_if, x_if1, x_if2, x_if3, x_ret, x_ret1, x_ret2, x_ret3, x_retN, x_asg, x_asg1, x_asg2, x_asg3, x_asg4, x_asg5, x_gN, x_drop, x_drop1, x_drop2, x_bk, x_ct, x_raise, x_tZ, x_tZ1, x_tZ2, x_tE, x_tE1, x_tE2, x_tE3, x_tAnd, x_tAnd1, x_tAnd2, x_tAnd3, x_tOr, x_tOr1, x_tOr2, x_tOr3, x_tNot, x_tNot1, x_tNot2, x_tNot3, x_tTrue, x_z2, x_z21, x_z1, x_z11, x_zC, x_zC1, x_za, x_za1, x_za0, x_zV, x_zK, x_ch, x_ch1, x_ch2, x_eZ, x_eZ1, x_eZ2, x_eV, x_eV1, x_eM, x_eM1, x_b1, x_b2, x_b3, x_s1, x_s2, x_s3, x_oO, x_oO2, x_e2, x_e1, x_eC, x_aN, x_aC, x_tup, x_lst, x_call, x_oC1, x_oC2, x_call0, x_call01, x_eAnd, x_eAnd1, x_eOr, x_eOr1, x_eNot, x_eNot1, x_eIf, x_eIf1, x_fz_int, x_fr_int, x_fz_bl, x_fr_bl, x_fz_str, x_fr_str, x_fz_ty, x_fr_ty, x_fz_tup, x_fr_tup, x_fz_cst, x_fr_cst, x_fz_lst_false, x_fr_lst_false, x_fz_non, x_fr_non, x_fz_lt, x_fr_lt, x_fL0, x_fL1, x_cF, x_cR1, x_cR2, x_cR3, x_iL, x_iL1, x_iT, x_iT1, x_iS, x_iS1, x_iR1, x_iR11, x_iR2, x_iR21, x_iE, x_iE1, x_iV, x_iV1, x_iZ, x_iZ1, x_for, x_fo0, x_fo1, x_fo2, x_fo3, x_fo4, x_fo5, x_fo6, x_fo7, x_gT, x_gC, x_gC0, x_try, x_try1, x_try2, x_try3, x_try4, x_try5, x_nx1, x_nx2, x_try6, x_try7, x_nx3, x_nx4, x_app, x_app1, x_app2, x_lc, x_lcE, x_lc0, x_lc1, x_lcG, x_w0, x_w1, vMinL4, vMaxL4, vAll3, vAny3, vAll4, vAny4, x_wh1, x_wh2, x_wh0, x_abs, vI_ii, vI_ib, vI_it, vI_il, vI_is, vI_bb, vI_bi, vI_tt, vI_tl, vI_ti, vI_ll, vI_lt, vI_ss, vEqB, vNeB, x_ta, x_ta1, x_ta2, x_ta3, x_ta4, x_ta5, x_is, nc_0, nc_1, nc_2, nc_3, nc_4, nc_5, nc_6, nc_7, nc_8, nc_9, nc_10, nc_11, vMax2, vMin2, vIsN0, vIsN1, vNotN0, vNotN1, vIsN2, vNotN2, x_lo, x_lo1, x_lo2, vAll2, vAny2, x_sl, x_sl1, x_sl2, x_pn, x_ps, x_ps1, x_cutL, x_cutC, vEqS, vNeS, x_fz_obj, x_fr_obj, x_make, x_meth, x_meth2, x_meth3, x_isO, x_isO1, x_cat, x_cat1, x_methZ, x_methZ2, x_methZ3, x_callZ, x_callZ1, x_lend1, x_lend2, x_cl_int, x_cl_bl, x_cl_str, x_cl_non, x_cl_tup, x_cl0, x_cl1, x_cl_lst, x_setIx, x_setIx1, x_setIx2, x_callI, x_callI1, x_callI2, x_callI3, x_take0, x_take1, x_take2, x_put0, x_put1, x_cFI, x_cRI1, x_cRI2, x_outR, x_outR1, x_out1, x_out2, x_par, x_par1, x_sort, x_sort1, x_sort2, x_io2, x_io4, vIsB, x_pop, x_lr, x_lr1, x_clr, x_clr1, x_clrE, x_clrE1, x_pop1, x_pop2, x_ins, x_ins1, x_ins2, List.all_cons, List.all_nil, Option.isSome_some, Option.map_some, List.getD_cons_zero, List.getD_cons_succ, List.set_cons_zero, List.set_cons_succ, List.map_cons, List.map_nil, List.replicate_zero, List.replicate_succ, List.length_cons, List.length_nil, List.cons_append, List.nil_append, Option.bind_some, if_true, if_false, Bool.false_eq_true, Nat.reduceSub, Nat.reduceAdd, Nat.reduceLeDiff, Nat.reduceLT, vAdd, vSub, vLt, vLe, vGt, vGe, vNeg, vEq, vNe, vEq2, vNe2, vMod, vDiv, vMul, vPow, Int.reduceToNat, vIx0, vIx1, vLenT, vLenC, vLenL, reduceIte, decide_true, decide_false, Bool.not_true, Bool.not_false, beq_self_eq_true, Bool.and_true, Bool.true_and, Bool.and_self, Bool.and_false, Bool.false_and, fR, lk, n1, n2]
  · rw [x_clrE, List.getD_cons_succ, List.getD_cons_succ, List.getD_cons_succ, List.getD_cons_succ, List.getD_cons_succ, List.getD_cons_succ, List.getD_cons_succ, List.getD_cons_succ, List.getD_cons_succ, List.getD_cons_succ, List.getD_cons_succ, List.getD_cons_succ, List.getD_cons_zero, x_clrE1, if_pos ⟨own, by show 13 < 14; decide⟩]
    rfl
  · rfl
  · simp only [u_law_13, x_seq, x_seq1, x_seq2, x_seq3, x_seq4, x_seq5, x_seq6, x_nil, x_if, x_if1, x_if2, x_if3, x_ret, x_ret1, x_ret2, x_ret3, x_retN, x_asg, x_asg1, x_asg2, x_asg3, x_asg4, x_asg5, x_gN, x_drop, x_drop1, x_drop2, x_bk, x_ct, x_raise, x_tZ, x_tZ1, x_tZ2, x_tE, x_tE1, x_tE2, x_tE3, x_tAnd, x_tAnd1, x_tAnd2, x_tAnd3, x_tOr, x_tOr1, x_tOr2, x_tOr3, x_tNot, x_tNot1, x_tNot2, x_tNot3, x_tTrue, x_z2, x_z21, x_z1, x_z11, x_zC, x_zC1, x_za, x_za1, x_za0, x_zV, x_zK, x_ch, x_ch1, x_ch2, x_eZ, x_eZ1, x_eZ2, x_eV, x_eV1, x_eM, x_eM1, x_b1, x_b2, x_b3, x_s1, x_s2, x_s3, x_oO, x_oO2, x_e2, x_e1, x_eC, x_aN, x_aC, x_tup, x_lst, x_call, x_oC1, x_oC2, x_call0, x_call01, x_eAnd, x_eAnd1, x_eOr, x_eOr1, x_eNot, x_eNot1, x_eIf, x_eIf1, x_fz_int, x_fr_int, x_fz_bl, x_fr_bl, x_fz_str, x_fr_str, x_fz_ty, x_fr_ty, x_fz_tup, x_fr_tup, x_fz_cst, x_fr_cst, x_fz_lst_false, x_fr_lst_false, x_fz_non, x_fr_non, x_fz_lt, x_fr_lt, x_fL0, x_fL1, x_cF, x_cR1, x_cR2, x_cR3, x_iL, x_iL1, x_iT, x_iT1, x_iS, x_iS1, x_iR1, x_iR11, x_iR2, x_iR21, x_iE, x_iE1, x_iV, x_iV1, x_iZ, x_iZ1, x_for, x_fo0, x_fo1, x_fo2, x_fo3, x_fo4, x_fo5, x_fo6, x_fo7, x_gT, x_gC, x_gC0, x_try, x_try1, x_try2, x_try3, x_try4, x_try5, x_nx1, x_nx2, x_try6, x_try7, x_nx3, x_nx4, x_app, x_app1, x_app2, x_lc, x_lcE, x_lc0, x_lc1, x_lcG, x_w0, x_w1, vMinL4, vMaxL4, vAll3, vAny3, vAll4, vAny4, x_wh1, x_wh2, x_wh0, x_abs, vI_ii, vI_ib, vI_it, vI_il, vI_is, vI_bb, vI_bi, vI_tt, vI_tl, vI_ti, vI_ll, vI_lt, vI_ss, vEqB, vNeB, x_ta, x_ta1, x_ta2, x_ta3, x_ta4, x_ta5, x_is, nc_0, nc_1, nc_2, nc_3, nc_4, nc_5, nc_6, nc_7, nc_8, nc_9, nc_10, nc_11, vMax2, vMin2, vIsN0, vIsN1, vNotN0, vNotN1, vIsN2, vNotN2, x_lo, x_lo1, x_lo2, vAll2, vAny2, x_sl, x_sl1, x_sl2, x_pn, x_ps, x_ps1, x_cutL, x_cutC, vEqS, vNeS, x_fz_obj, x_fr_obj, x_make, x_meth, x_meth2, x_meth3, x_isO, x_isO1, x_cat, x_cat1, x_methZ, x_methZ2, x_methZ3, x_callZ, x_callZ1, x_lend1, x_lend2, x_cl_int, x_cl_bl, x_cl_str, x_cl_non, x_cl_tup, x_cl0, x_cl1, x_cl_lst, x_setIx, x_setIx1, x_setIx2, x_callI, x_callI1, x_callI2, x_callI3, x_take0, x_take1, x_take2, x_put0, x_put1, x_cFI, x_cRI1, x_cRI2, x_outR, x_outR1, x_out1, x_out2, x_par, x_par1, x_sort, x_sort1, x_sort2, x_io2, x_io4, vIsB, x_pop, x_lr, x_lr1, x_clr, x_clr1, x_clrE, x_clrE1, x_pop1, x_pop2, x_ins, x_ins1, x_ins2, List.all_cons, List.all_nil, Option.isSome_some, Option.map_some, List.getD_cons_zero, List.getD_cons_succ, List.set_cons_zero, List.set_cons_succ, List.map_cons, List.map_nil, List.replicate_zero, List.replicate_succ, List.length_cons, List.length_nil, List.cons_append, List.nil_append, Option.bind_some, if_true, if_false, Bool.false_eq_true, Nat.reduceSub, Nat.reduceAdd, Nat.reduceLeDiff, Nat.reduceLT, vAdd, vSub, vLt, vLe, vGt, vGe, vNeg, vEq, vNe, vEq2, vNe2, vMod, vDiv, vMul, vPow, Int.reduceToNat, vIx0, vIx1, vLenT, vLenC, vLenL, reduceIte, decide_true, decide_false, Bool.not_true, Bool.not_false, beq_self_eq_true, Bool.and_true, Bool.true_and, Bool.and_self, Bool.and_false, Bool.false_and, es, fR, lk]
theorem law_true (ns : List Int) (h : ns.length ≤ 63) : f_law [.cst (ns.map D.int)] = .ok (.bl true) := by
  obtain ⟨c0, e0⟩ := cell_j ns (j := 0) (by decide)
  obtain ⟨c1, e1⟩ := cell_j ns (j := 1) (by decide)
  obtain ⟨c2, e2⟩ := cell_j ns (j := 2) (by decide)
  obtain ⟨g, eg, g1, g2⟩ := grid_ok c1
  obtain ⟨M, hM, m1, m4⟩ : ∃ M, 1 + c0 % 4 = M ∧ 1 ≤ M ∧ M ≤ 4 := ⟨_, rfl, by omega, by omega⟩
  obtain ⟨m, hm⟩ : ∃ m, M.toNat = m := ⟨_, rfl⟩
  obtain ⟨bs, ebs, hbl, hbs⟩ := box_ok ns (g := g) hm m1 m4
  obtain ⟨us, ef, hus, u1, u4⟩ := first_ok c2 m1 m4
  have hN := net_unk hus
  obtain ⟨cs, hcs, hl⟩ : ∃ cs : List Int, cutL (ns.map D.int) (some 11) (some 27) = cs.map D.int ∧ cs.length ≤ 63 := ⟨_, cut_map _ _ _ _, Nat.le_trans (cut_length_le _ _ _) h⟩
  have ehv := heavy_ok (scr := ns.map D.int) (B := bs.map spD) (M := M) (g := g) u4
  obtain ⟨nds', ws', x8, hN', n1', n2', eg2⟩ := grow_all (B := bs.map spD) (g := g) hN u1 u4 hcs hl
  obtain ⟨τ', em⟩ := tail_ok (scr := ns.map D.int) hm m1 m4 g1 g2 hN' n2' hbl hbs x8
  have k : m_law [some (.cst (ns.map D.int)), none, none, none, none, none, none, none, none, none, none, none, none, none] = .rt (.bl true) τ' := by
    refine x_seq_ok (τ1 := [some (.cst (ns.map D.int)), some (.int M), none, none, none, none, none, none, none, none, none, none, none, none]) ?_ (x_seq_ok (τ1 := [some (.cst (ns.map D.int)), some (.int M), some (.int g), none, none, none, none, none, none, none, none, none, none, none]) ?_ (x_seq_ok (x_asg_ok ebs rfl) (x_seq_ok (τ1 := [some (.cst (ns.map D.int)), some (.int M), some (.int g), some (.lst true (bs.map spD)), none, some (.lst true (us.map Nd.d)), none, none, none, none, none, none, none, none]) ?_ (x_seq_ok (x_asg_ok ehv rfl) (eg2.trans em)))))
    · clear ebs ehv eg2 em
      generalize ns.map D.int = scr at *
      simp (disch := decide) only [x_seq, x_seq1, x_seq2, x_seq3, x_seq4, x_seq5, x_seq6, x_nil, x_if, x_if1, x_if2, x_if3, x_ret, x_ret1, x_ret2, x_ret3, x_retN, x_asg, x_asg1, x_asg2, x_asg3, x_asg4, x_asg5, x_gN, x_drop, x_drop1, x_drop2, x_bk, x_ct, x_raise, x_tZ, x_tZ1, x_tZ2, x_tE, x_tE1, x_tE2, x_tE3, x_tAnd, x_tAnd1, x_tAnd2, x_tAnd3, x_tOr, x_tOr1, x_tOr2, x_tOr3, x_tNot, x_tNot1, x_tNot2, x_tNot3, x_tTrue, x_z2, x_z21, x_z1, x_z11, x_zC, x_zC1, x_za, x_za1, x_za0, x_zV, x_zK, x_ch, x_ch1, x_ch2, x_eZ, x_eZ1, x_eZ2, x_eV, x_eV1, x_eM, x_eM1, x_b1, x_b2, x_b3, x_s1, x_s2, x_s3, x_oO, x_oO2, x_e2, x_e1, x_eC, x_aN, x_aC, x_tup, x_lst, x_call, x_oC1, x_oC2, x_call0, x_call01, x_eAnd, x_eAnd1, x_eOr, x_eOr1, x_eNot, x_eNot1, x_eIf, x_eIf1, x_fz_int, x_fr_int, x_fz_bl, x_fr_bl, x_fz_str, x_fr_str, x_fz_ty, x_fr_ty, x_fz_tup, x_fr_tup, x_fz_cst, x_fr_cst, x_fz_lst_false, x_fr_lst_false, x_fz_non, x_fr_non, x_fz_lt, x_fr_lt, x_fL0, x_fL1, x_cF, x_cR1, x_cR2, x_cR3, x_iL, x_iL1, x_iT, x_iT1, x_iS, x_iS1, x_iR1, x_iR11, x_iR2, x_iR21, x_iE, x_iE1, x_iV, x_iV1, x_iZ, x_iZ1, x_for, x_fo0, x_fo1, x_fo2, x_fo3, x_fo4, x_fo5, x_fo6, x_fo7, x_gT, x_gC, x_gC0, x_try, x_try1, x_try2, x_try3, x_try4, x_try5, x_nx1, x_nx2, x_try6, x_try7, x_nx3, x_nx4, x_app, x_app1, x_app2, x_lc, x_lcE, x_lc0, x_lc1, x_lcG, x_w0, x_w1, vMinL4, vMaxL4, vAll3, vAny3, vAll4, vAny4, x_wh1, x_wh2, x_wh0, x_abs, vI_ii, vI_ib, vI_it, vI_il, vI_is, vI_bb, vI_bi, vI_tt, vI_tl, vI_ti, vI_ll, vI_lt, vI_ss, vEqB, vNeB, x_ta, x_ta1, x_ta2, x_ta3, x_ta4, x_ta5, x_is, nc_0, nc_1, nc_2, nc_3, nc_4, nc_5, nc_6, nc_7, nc_8, nc_9, nc_10, nc_11, vMax2, vMin2, vIsN0, vIsN1, vNotN0, vNotN1, vIsN2, vNotN2, x_lo, x_lo1, x_lo2, vAll2, vAny2, x_sl, x_sl1, x_sl2, x_pn, x_ps, x_ps1, x_cutL, x_cutC, vEqS, vNeS, x_fz_obj, x_fr_obj, x_make, x_meth, x_meth2, x_meth3, x_isO, x_isO1, x_cat, x_cat1, x_methZ, x_methZ2, x_methZ3, x_callZ, x_callZ1, x_lend1, x_lend2, x_cl_int, x_cl_bl, x_cl_str, x_cl_non, x_cl_tup, x_cl0, x_cl1, x_cl_lst, x_setIx, x_setIx1, x_setIx2, x_callI, x_callI1, x_callI2, x_callI3, x_take0, x_take1, x_take2, x_put0, x_put1, x_cFI, x_cRI1, x_cRI2, x_outR, x_outR1, x_out1, x_out2, x_par, x_par1, x_sort, x_sort1, x_sort2, x_io2, x_io4, vIsB, x_pop, x_lr, x_lr1, x_clr, x_clr1, x_clrE, x_clrE1, x_pop1, x_pop2, x_ins, x_ins1, x_ins2, List.all_cons, List.all_nil, Option.isSome_some, Option.map_some, List.getD_cons_zero, List.getD_cons_succ, List.set_cons_zero, List.set_cons_succ, List.map_cons, List.map_nil, List.replicate_zero, List.replicate_succ, List.length_cons, List.length_nil, List.cons_append, List.nil_append, Option.bind_some, if_true, if_false, Bool.false_eq_true, Nat.reduceSub, Nat.reduceAdd, Nat.reduceLeDiff, Nat.reduceLT, vAdd, vSub, vLt, vLe, vGt, vGe, vNeg, vEq, vNe, vEq2, vNe2, vMod, vDiv, vMul, vPow, Int.reduceToNat, vIx0, vIx1, vLenT, vLenC, vLenL, reduceIte, decide_true, decide_false, Bool.not_true, Bool.not_false, beq_self_eq_true, Bool.and_true, Bool.true_and, Bool.and_self, Bool.and_false, Bool.false_and, e0, hM]
    · clear ebs ehv eg2 em
      generalize ns.map D.int = scr at *
      simp (disch := decide) only [x_seq, x_seq1, x_seq2, x_seq3, x_seq4, x_seq5, x_seq6, x_nil, x_if, x_if1, x_if2, x_if3, x_ret, x_ret1, x_ret2, x_ret3, x_retN, x_asg, x_asg1, x_asg2, x_asg3, x_asg4, x_asg5, x_gN, x_drop, x_drop1, x_drop2, x_bk, x_ct, x_raise, x_tZ, x_tZ1, x_tZ2, x_tE, x_tE1, x_tE2, x_tE3, x_tAnd, x_tAnd1, x_tAnd2, x_tAnd3, x_tOr, x_tOr1, x_tOr2, x_tOr3, x_tNot, x_tNot1, x_tNot2, x_tNot3, x_tTrue, x_z2, x_z21, x_z1, x_z11, x_zC, x_zC1, x_za, x_za1, x_za0, x_zV, x_zK, x_ch, x_ch1, x_ch2, x_eZ, x_eZ1, x_eZ2, x_eV, x_eV1, x_eM, x_eM1, x_b1, x_b2, x_b3, x_s1, x_s2, x_s3, x_oO, x_oO2, x_e2, x_e1, x_eC, x_aN, x_aC, x_tup, x_lst, x_call, x_oC1, x_oC2, x_call0, x_call01, x_eAnd, x_eAnd1, x_eOr, x_eOr1, x_eNot, x_eNot1, x_eIf, x_eIf1, x_fz_int, x_fr_int, x_fz_bl, x_fr_bl, x_fz_str, x_fr_str, x_fz_ty, x_fr_ty, x_fz_tup, x_fr_tup, x_fz_cst, x_fr_cst, x_fz_lst_false, x_fr_lst_false, x_fz_non, x_fr_non, x_fz_lt, x_fr_lt, x_fL0, x_fL1, x_cF, x_cR1, x_cR2, x_cR3, x_iL, x_iL1, x_iT, x_iT1, x_iS, x_iS1, x_iR1, x_iR11, x_iR2, x_iR21, x_iE, x_iE1, x_iV, x_iV1, x_iZ, x_iZ1, x_for, x_fo0, x_fo1, x_fo2, x_fo3, x_fo4, x_fo5, x_fo6, x_fo7, x_gT, x_gC, x_gC0, x_try, x_try1, x_try2, x_try3, x_try4, x_try5, x_nx1, x_nx2, x_try6, x_try7, x_nx3, x_nx4, x_app, x_app1, x_app2, x_lc, x_lcE, x_lc0, x_lc1, x_lcG, x_w0, x_w1, vMinL4, vMaxL4, vAll3, vAny3, vAll4, vAny4, x_wh1, x_wh2, x_wh0, x_abs, vI_ii, vI_ib, vI_it, vI_il, vI_is, vI_bb, vI_bi, vI_tt, vI_tl, vI_ti, vI_ll, vI_lt, vI_ss, vEqB, vNeB, x_ta, x_ta1, x_ta2, x_ta3, x_ta4, x_ta5, x_is, nc_0, nc_1, nc_2, nc_3, nc_4, nc_5, nc_6, nc_7, nc_8, nc_9, nc_10, nc_11, vMax2, vMin2, vIsN0, vIsN1, vNotN0, vNotN1, vIsN2, vNotN2, x_lo, x_lo1, x_lo2, vAll2, vAny2, x_sl, x_sl1, x_sl2, x_pn, x_ps, x_ps1, x_cutL, x_cutC, vEqS, vNeS, x_fz_obj, x_fr_obj, x_make, x_meth, x_meth2, x_meth3, x_isO, x_isO1, x_cat, x_cat1, x_methZ, x_methZ2, x_methZ3, x_callZ, x_callZ1, x_lend1, x_lend2, x_cl_int, x_cl_bl, x_cl_str, x_cl_non, x_cl_tup, x_cl0, x_cl1, x_cl_lst, x_setIx, x_setIx1, x_setIx2, x_callI, x_callI1, x_callI2, x_callI3, x_take0, x_take1, x_take2, x_put0, x_put1, x_cFI, x_cRI1, x_cRI2, x_outR, x_outR1, x_out1, x_out2, x_par, x_par1, x_sort, x_sort1, x_sort2, x_io2, x_io4, vIsB, x_pop, x_lr, x_lr1, x_clr, x_clr1, x_clrE, x_clrE1, x_pop1, x_pop2, x_ins, x_ins1, x_ins2, List.all_cons, List.all_nil, Option.isSome_some, Option.map_some, List.getD_cons_zero, List.getD_cons_succ, List.set_cons_zero, List.set_cons_succ, List.map_cons, List.map_nil, List.replicate_zero, List.replicate_succ, List.length_cons, List.length_nil, List.cons_append, List.nil_append, Option.bind_some, if_true, if_false, Bool.false_eq_true, Nat.reduceSub, Nat.reduceAdd, Nat.reduceLeDiff, Nat.reduceLT, vAdd, vSub, vLt, vLe, vGt, vGe, vNeg, vEq, vNe, vEq2, vNe2, vMod, vDiv, vMul, vPow, Int.reduceToNat, vIx0, vIx1, vLenT, vLenC, vLenL, reduceIte, decide_true, decide_false, Bool.not_true, Bool.not_false, beq_self_eq_true, Bool.and_true, Bool.true_and, Bool.and_self, Bool.and_false, Bool.false_and, e1, eg]
    · clear ebs ehv eg2 em
      generalize ns.map D.int = scr at *
      generalize bs.map spD = B at *
      generalize us.map Nd.d = S at *
      simp (disch := decide) only [x_seq, x_seq1, x_seq2, x_seq3, x_seq4, x_seq5, x_seq6, x_nil, x_if, x_if1, x_if2, x_if3, x_ret, x_ret1, x_ret2, x_ret3, x_retN, x_asg, x_asg1, x_asg2, x_asg3, x_asg4, x_asg5, x_gN, x_drop, x_drop1, x_drop2, x_bk, x_ct, x_raise, x_tZ, x_tZ1, x_tZ2, x_tE, x_tE1, x_tE2, x_tE3, x_tAnd, x_tAnd1, x_tAnd2, x_tAnd3, x_tOr, x_tOr1, x_tOr2, x_tOr3, x_tNot, x_tNot1, x_tNot2, x_tNot3, x_tTrue, x_z2, x_z21, x_z1, x_z11, x_zC, x_zC1, x_za, x_za1, x_za0, x_zV, x_zK, x_ch, x_ch1, x_ch2, x_eZ, x_eZ1, x_eZ2, x_eV, x_eV1, x_eM, x_eM1, x_b1, x_b2, x_b3, x_s1, x_s2, x_s3, x_oO, x_oO2, x_e2, x_e1, x_eC, x_aN, x_aC, x_tup, x_lst, x_call, x_oC1, x_oC2, x_call0, x_call01, x_eAnd, x_eAnd1, x_eOr, x_eOr1, x_eNot, x_eNot1, x_eIf, x_eIf1, x_fz_int, x_fr_int, x_fz_bl, x_fr_bl, x_fz_str, x_fr_str, x_fz_ty, x_fr_ty, x_fz_tup, x_fr_tup, x_fz_cst, x_fr_cst, x_fz_lst_false, x_fr_lst_false, x_fz_non, x_fr_non, x_fz_lt, x_fr_lt, x_fL0, x_fL1, x_cF, x_cR1, x_cR2, x_cR3, x_iL, x_iL1, x_iT, x_iT1, x_iS, x_iS1, x_iR1, x_iR11, x_iR2, x_iR21, x_iE, x_iE1, x_iV, x_iV1, x_iZ, x_iZ1, x_for, x_fo0, x_fo1, x_fo2, x_fo3, x_fo4, x_fo5, x_fo6, x_fo7, x_gT, x_gC, x_gC0, x_try, x_try1, x_try2, x_try3, x_try4, x_try5, x_nx1, x_nx2, x_try6, x_try7, x_nx3, x_nx4, x_app, x_app1, x_app2, x_lc, x_lcE, x_lc0, x_lc1, x_lcG, x_w0, x_w1, vMinL4, vMaxL4, vAll3, vAny3, vAll4, vAny4, x_wh1, x_wh2, x_wh0, x_abs, vI_ii, vI_ib, vI_it, vI_il, vI_is, vI_bb, vI_bi, vI_tt, vI_tl, vI_ti, vI_ll, vI_lt, vI_ss, vEqB, vNeB, x_ta, x_ta1, x_ta2, x_ta3, x_ta4, x_ta5, x_is, nc_0, nc_1, nc_2, nc_3, nc_4, nc_5, nc_6, nc_7, nc_8, nc_9, nc_10, nc_11, vMax2, vMin2, vIsN0, vIsN1, vNotN0, vNotN1, vIsN2, vNotN2, x_lo, x_lo1, x_lo2, vAll2, vAny2, x_sl, x_sl1, x_sl2, x_pn, x_ps, x_ps1, x_cutL, x_cutC, vEqS, vNeS, x_fz_obj, x_fr_obj, x_make, x_meth, x_meth2, x_meth3, x_isO, x_isO1, x_cat, x_cat1, x_methZ, x_methZ2, x_methZ3, x_callZ, x_callZ1, x_lend1, x_lend2, x_cl_int, x_cl_bl, x_cl_str, x_cl_non, x_cl_tup, x_cl0, x_cl1, x_cl_lst, x_setIx, x_setIx1, x_setIx2, x_callI, x_callI1, x_callI2, x_callI3, x_take0, x_take1, x_take2, x_put0, x_put1, x_cFI, x_cRI1, x_cRI2, x_outR, x_outR1, x_out1, x_out2, x_par, x_par1, x_sort, x_sort1, x_sort2, x_io2, x_io4, vIsB, x_pop, x_lr, x_lr1, x_clr, x_clr1, x_clrE, x_clrE1, x_pop1, x_pop2, x_ins, x_ins1, x_ins2, List.all_cons, List.all_nil, Option.isSome_some, Option.map_some, List.getD_cons_zero, List.getD_cons_succ, List.set_cons_zero, List.set_cons_succ, List.map_cons, List.map_nil, List.replicate_zero, List.replicate_succ, List.length_cons, List.length_nil, List.cons_append, List.nil_append, Option.bind_some, if_true, if_false, Bool.false_eq_true, Nat.reduceSub, Nat.reduceAdd, Nat.reduceLeDiff, Nat.reduceLT, vAdd, vSub, vLt, vLe, vGt, vGe, vNeg, vEq, vNe, vEq2, vNe2, vMod, vDiv, vMul, vPow, Int.reduceToNat, vIx0, vIx1, vLenT, vLenC, vLenL, reduceIte, decide_true, decide_false, Bool.not_true, Bool.not_false, beq_self_eq_true, Bool.and_true, Bool.true_and, Bool.and_self, Bool.and_false, Bool.false_and, e2, ef]
  exact (cF_ok (b := m_law) (n := 1) (N := 14) (τ0 := [some (.cst (ns.map D.int)), none, none, none, none, none, none, none, none, none, none, none, none, none]) rfl rfl k).trans rfl

end Lw

namespace Lw
open PySem PySem.Spec PyProof.Rows L2 Bn
/-! ### what the top has written -/
structure Tx (K : PySem.W.Frag) (mg : Str → Option Value) (ca : Str → Addr) : Prop where
  abs_ : mg "abs" = none
  bool_ : mg "bool" = none
  int_ : mg "int" = none
  isinstance : mg "isinstance" = none
  len_ : mg "len" = none
  list_ : mg "list" = none
  max_ : mg "max" = none
  min_ : mg "min" = none
  range : mg "range" = none
  reversed : mg "reversed" = none
  sorted : mg "sorted" = none
  tuple_ : mg "tuple" = none
  x_NoSpan : Ec K mg ca "NoSpan"
  cl_Number : Cls K (ca "Number")
  cl_Unknown : Cls K (ca "Unknown")
  cl_Plus : Cls K (ca "Plus")
  cl_Minus : Cls K (ca "Minus")
  cl_Times : Cls K (ca "Times")
  cl_Power : Cls K (ca "Power")
  na_Minus_one : NoAttr K (ca "Minus") "one"
  na_Minus_other : NoAttr K (ca "Minus") "other"
  na_Number_bottom : NoAttr K (ca "Number") "bottom"
  na_Number_top : NoAttr K (ca "Number") "top"
  na_Plus_one : NoAttr K (ca "Plus") "one"
  na_Plus_other : NoAttr K (ca "Plus") "other"
  na_Power_many : NoAttr K (ca "Power") "many"
  na_Power_one : NoAttr K (ca "Power") "one"
  na_Times_one : NoAttr K (ca "Times") "one"
  na_Times_other : NoAttr K (ca "Times") "other"
  na_Unknown_place : NoAttr K (ca "Unknown") "place"
section
variable {P : Program} {w : World} {K : PySem.W.Frag} {mg : Str → Option Value} {base : Heap} {ca : Str → Addr}
theorem ok__law_grid (T : Tx K mg ca)  {f : Addr} {fd : FuncData} (F : Fun K "_law_grid" "_law_grid" s__law_grid f fd) : FnOk P w K mg base (L2.CX P w) 1 f fd ["_law_cell_here"] (spP K ca f__law_grid) :=
  fn_ok F sc__law_grid fun cdv A outer s H E F0 R hr c => (s_cons (s_if (t_cmpZ (op_eqD hr.units) sEq (z_op op_mod sMod (z_var (pv 0)) z_int) z_int) (s_one (s_ret (e_z (z_op op_add sAdd z_int (z_op op_mod sMod (z_op op_fdivW sDiv (z_var (pv 0)) z_int) z_int))))) s_nil)
    (s_cons (s_if (t_cmpZ (op_eqD hr.units) sEq (z_op op_mod sMod (z_var (pv 0)) z_int) z_int) (s_one (s_ret (e_z (z_op op_add sAdd z_int (z_op op_mod sMod (z_op op_fdivW sDiv (z_var (pv 0)) z_int) z_int))))) s_nil)
    (s_one (s_ret (e_z z_int)))))
theorem ok__law_first (T : Tx K mg ca)  {f : Addr} {fd : FuncData} (F : Fun K "_law_first" "_law_first" s__law_first f fd) : FnOk P w K mg base (L2.CX P w) 1 f fd ["_law_cell_here", "_law_size"] (spP K ca f__law_first) :=
  fn_ok F sc__law_first fun cdv A outer s H E F0 R hr c => (s_cons (s_set (i := 2) sc__law_first.nd rfl (.inl rfl) (e_var (pv 1)))
    (s_cons (s_if (PW.pt (t_and (t_cmpZ (op_eqD hr.units) sEq (z_op op_mod sMod (z_var (pv 0)) z_int) z_int) (t_and1 (t_cmpZ op_gt sGt (z_var (pv 1)) z_int)))) (s_one (s_set (i := 2) sc__law_first.nd rfl (.inl rfl) (e_z (z_op op_sub sSub (z_var (pv 1)) z_int)))) s_nil)
    (s_cons (s_setLc (i := 3) (own := [("_law_k", 4)]) c sc__law_first.nd rfl rfl (sw_true rfl rfl rfl (by decide +kernel)) (i_range1 (by rfl) T.range (a_cons (e_var (pv 2)) a_nil)) (blkOk_by (own := [("_law_k", 4)]) (N := ["_law_cell_here", "_law_size", "_law_count", "_law_nodes", "_law_k"]) (sc := defScope s__law_first) (by decide +kernel)) (fun _ _ _ _ _ => (g_name (i := 4) sc__law_first.nd rfl (.inl rfl))) (fun _ _ _ _ _ => ts_nil) (fun _ _ _ _ _ c => (e_tup (a_cons (e_z z_str) (a_cons (e_var (pv 4)) a_nil)))))
    (s_cons (s_if (t_cmpZ (op_eqD hr.units) sEq (z_op op_mod sMod (z_op op_fdivW sDiv (z_var (pv 0)) z_int) z_int) z_int) (s_one (s_set (i := 3) sc__law_first.nd rfl (.inl rfl) (e_lstRev c (by rfl) T.list_ (by rfl) T.reversed (e_var (pv 3))))) s_nil)
    (s_one (s_ret (e_mv (pv 3))))))))
theorem ok__law_plus (T : Tx K mg ca)  {f : Addr} {fd : FuncData} (F : Fun K "_law_plus" "_law_plus" s__law_plus f fd) : FnOk P w K mg base (L2.CX P w) 1 f fd ["_law_a", "_law_b"] (spP K ca f__law_plus) :=
  fn_ok F sc__law_plus fun cdv A outer s H E F0 R hr c => (s_one (s_ret (e_tup (a_cons (e_z (z_op op_add sAdd (z_ix ix_seq sIx (z_var (pv 0)) z_int) (z_ix ix_seq sIx (z_var (pv 1)) z_int))) (a_cons (e_z (z_op op_add sAdd (z_ix ix_seq sIx (z_var (pv 0)) z_int) (z_ix ix_seq sIx (z_var (pv 1)) z_int))) a_nil)))))
theorem ok__law_product (T : Tx K mg ca)  {f : Addr} {fd : FuncData} (F : Fun K "_law_product" "_law_product" s__law_product f fd) : FnOk P w K mg base (L2.CX P w) 1 f fd ["_law_a", "_law_b", "_law_grid_here"] (spP K ca f__law_product) :=
  fn_ok F sc__law_product fun cdv A outer s H E F0 R hr c => (s_cons (s_set (i := 3) sc__law_product.nd rfl (.inl rfl) (e_sorted (by rfl) T.sorted (by decide +kernel) (a_cons (e_lst (a_cons (e_z (z_op op_mulW sMul (z_ix ix_seq sIx (z_var (pv 0)) z_int) (z_ix ix_seq sIx (z_var (pv 1)) z_int))) (a_cons (e_z (z_op op_mulW sMul (z_ix ix_seq sIx (z_var (pv 0)) z_int) (z_ix ix_seq sIx (z_var (pv 1)) z_int))) (a_cons (e_z (z_op op_mulW sMul (z_ix ix_seq sIx (z_var (pv 0)) z_int) (z_ix ix_seq sIx (z_var (pv 1)) z_int))) (a_cons (e_z (z_op op_mulW sMul (z_ix ix_seq sIx (z_var (pv 0)) z_int) (z_ix ix_seq sIx (z_var (pv 1)) z_int))) a_nil))))) a_nil)))
    (s_one (s_ret (e_tup (a_cons (e_z (z_op op_fdivW sDiv (z_ix ix_seq sIx (z_var (pv 3)) z_int) (z_var (pv 2)))) (a_cons (e_z (z_un un_neg sNeg (z_op op_fdivW sDiv (z_un un_neg sNeg (z_ix ix_seq sIx (z_var (pv 3)) z_int)) (z_var (pv 2))))) a_nil))))))
theorem ok__law_less (T : Tx K mg ca)  {f : Addr} {fd : FuncData} (F : Fun K "_law_less" "_law_less" s__law_less f fd) : FnOk P w K mg base (L2.CX P w) 1 f fd ["_law_a", "_law_b"] (spP K ca f__law_less) :=
  fn_ok F sc__law_less fun cdv A outer s H E F0 R hr c => (s_one (s_ret (e_tup (a_cons (e_z (z_op op_sub sSub (z_ix ix_seq sIx (z_var (pv 0)) z_int) (z_ix ix_seq sIx (z_var (pv 1)) z_int))) (a_cons (e_z (z_op op_sub sSub (z_ix ix_seq sIx (z_var (pv 0)) z_int) (z_ix ix_seq sIx (z_var (pv 1)) z_int))) a_nil)))))
theorem ok__law_often (T : Tx K mg ca)  {f : Addr} {fd : FuncData} (F : Fun K "_law_often" "_law_often" s__law_often f fd) : FnOk P w K mg base (L2.CX P w) 1 f fd ["_law_a", "_law_many"] (spP K ca f__law_often) :=
  fn_ok F sc__law_often fun cdv A outer s H E F0 R hr c => (s_cons (s_set (i := 2) sc__law_often.nd rfl (.inl rfl) (e_z z_int))
    (s_cons (s_for c (i_range1 (by rfl) T.range (a_cons (e_var (pv 1)) a_nil)) (g_name (i := 3) sc__law_often.nd rfl (.inl rfl)) (s_one (s_set (i := 2) sc__law_often.nd rfl (.inl rfl) (e_z (z_op op_mulW sMul (z_var (pv 2)) (z_var (pv 0)))))))
    (s_one (s_ret (e_mv (pv 2))))))
theorem ok__law_raised (T : Tx K mg ca) (G__law_often : Fo P w K mg base ca 1 "_law_often" f__law_often) {f : Addr} {fd : FuncData} (F : Fun K "_law_raised" "_law_raised" s__law_raised f fd) : FnOk P w K mg base (L2.CX P w) 2 f fd ["_law_a", "_law_many", "_law_grid_here"] (spP K ca f__law_raised) :=
  fn_ok F sc__law_raised fun cdv A outer s H E F0 R hr c => (s_cons (s_set (i := 3) sc__law_raised.nd rfl (.inl rfl) (e_sorted (by rfl) T.sorted (by decide +kernel) (a_cons (e_lst (a_cons (e_call c G__law_often hr (by rfl) (a_cons (e_z (z_ix ix_seq sIx (z_var (pv 0)) z_int)) (a_cons (e_var (pv 1)) a_nil))) (a_cons (e_call c G__law_often hr (by rfl) (a_cons (e_z (z_ix ix_seq sIx (z_var (pv 0)) z_int)) (a_cons (e_var (pv 1)) a_nil))) a_nil))) a_nil)))
    (s_cons (s_if (PW.pt (t_and (t_cmpZ (op_eqD hr.units) sEq (z_op op_mod sMod (z_var (pv 1)) z_int) z_int) (t_and1 (t_chain op_lt sLt op_lt sLt (z_ix ix_seq sIx (z_var (pv 0)) z_int) z_int (z_ix ix_seq sIx (z_var (pv 0)) z_int))))) (s_one (s_setIx (pv 3) z_int (e_z z_int))) s_nil)
    (s_cons (s_set (i := 4) sc__law_raised.nd rfl (.inl rfl) (e_call c G__law_often hr (by rfl) (a_cons (e_var (pv 2)) (a_cons (e_z (z_op op_sub sSub (z_var (pv 1)) z_int)) a_nil))))
    (s_one (s_ret (e_tup (a_cons (e_z (z_op op_fdivW sDiv (z_ix ix_seq sIx (z_var (pv 3)) z_int) (z_var (pv 4)))) (a_cons (e_z (z_un un_neg sNeg (z_op op_fdivW sDiv (z_un un_neg sNeg (z_ix ix_seq sIx (z_var (pv 3)) z_int)) (z_var (pv 4))))) a_nil))))))))
theorem ok__law_factor (T : Tx K mg ca) (G__law_raised : Fo P w K mg base ca 2 "_law_raised" f__law_raised) {f : Addr} {fd : FuncData} (F : Fun K "_law_factor" "_law_factor" s__law_factor f fd) : FnOk P w K mg base (L2.CX P w) 3 f fd ["_law_a", "_law_many", "_law_grid_here"] (spP K ca f__law_factor) :=
  fn_ok F sc__law_factor fun cdv A outer s H E F0 R hr c => (s_cons (s_if (t_cmpZ op_gt sGt (z_var (pv 1)) z_int) (s_one (s_set (i := 0) sc__law_factor.nd rfl (.inl rfl) (e_call c G__law_raised hr (by rfl) (a_cons (e_var (pv 0)) (a_cons (e_z (z_op op_sub sSub (z_var (pv 1)) z_int)) (a_cons (e_var (pv 2)) a_nil)))))) s_nil)
    (s_one (s_ret (e_tup (a_cons (e_z (z_op op_mulW sMul (z_ix ix_seq sIx (z_var (pv 0)) z_int) (z_var (pv 1)))) (a_cons (e_z (z_op op_mulW sMul (z_ix ix_seq sIx (z_var (pv 0)) z_int) (z_var (pv 1)))) a_nil))))))
theorem ok__law_slope (T : Tx K mg ca) (G__law_plus : Fo P w K mg base ca 1 "_law_plus" f__law_plus) (G__law_product : Fo P w K mg base ca 1 "_law_product" f__law_product) (G__law_less : Fo P w K mg base ca 1 "_law_less" f__law_less) (G__law_factor : Fo P w K mg base ca 3 "_law_factor" f__law_factor) {f : Addr} {fd : FuncData} (F : Fun K "_law_slope" "_law_slope" s__law_slope f fd) : FnOk P w K mg base (L2.CX P w) 4 f fd ["_law_node", "_law_spans_here", "_law_made", "_law_k", "_law_grid_here"] (spP K ca f__law_slope) :=
  fn_ok F sc__law_slope fun cdv A outer s H E F0 R hr c => (s_cons (s_set (i := 5) sc__law_slope.nd rfl (.inl rfl) (e_z (z_ix ix_seq sIx (z_var (pv 0)) z_int)))
    (s_cons (s_if (PW.pt (t_or (t_cmpZ (op_eqD hr.units) sEq (z_var (pv 5)) z_str) (t_or1 (PW.pt (t_and (t_cmpZ (op_eqD hr.units) sEq (z_var (pv 5)) z_str) (t_and1 (t_cmpZ (op_neD hr.units) sNe (z_ix ix_seq sIx (z_var (pv 0)) z_int) (z_var (pv 3))))))))) (s_one (s_ret (e_tup (a_cons (e_z z_int) (a_cons (e_z z_int) a_nil))))) s_nil)
    (s_cons (s_if (t_cmpZ (op_eqD hr.units) sEq (z_var (pv 5)) z_str) (s_one (s_ret (e_tup (a_cons (e_var (pv 4)) (a_cons (e_var (pv 4)) a_nil))))) s_nil)
    (s_cons (s_set (i := 6) sc__law_slope.nd rfl (.inl rfl) (e_z (z_ix ix_seq sIx (z_ix ix_seq sIx (z_var (pv 2)) (z_ix ix_seq sIx (z_var (pv 0)) z_int)) (z_var (pv 3)))))
    (s_cons (s_if (t_cmpZ (op_eqD hr.units) sEq (z_var (pv 5)) z_str) (s_one (s_ret (e_call c G__law_product hr (by rfl) (a_cons (e_call c G__law_factor hr (by rfl) (a_cons (e_z (z_ix ix_seq sIx (z_var (pv 1)) (z_ix ix_seq sIx (z_var (pv 0)) z_int))) (a_cons (e_z (z_ix ix_seq sIx (z_var (pv 0)) z_int)) (a_cons (e_var (pv 4)) a_nil)))) (a_cons (e_var (pv 6)) (a_cons (e_var (pv 4)) a_nil)))))) s_nil)
    (s_cons (s_set (i := 7) sc__law_slope.nd rfl (.inl rfl) (e_z (z_ix ix_seq sIx (z_ix ix_seq sIx (z_var (pv 2)) (z_ix ix_seq sIx (z_var (pv 0)) z_int)) (z_var (pv 3)))))
    (s_cons (s_if (t_cmpZ (op_eqD hr.units) sEq (z_var (pv 5)) z_str) (s_one (s_ret (e_call c G__law_plus hr (by rfl) (a_cons (e_var (pv 6)) (a_cons (e_var (pv 7)) a_nil))))) s_nil)
    (s_cons (s_if (t_cmpZ (op_eqD hr.units) sEq (z_var (pv 5)) z_str) (s_one (s_ret (e_call c G__law_less hr (by rfl) (a_cons (e_var (pv 6)) (a_cons (e_var (pv 7)) a_nil))))) s_nil)
    (s_one (s_ret (e_call c G__law_plus hr (by rfl) (a_cons (e_call c G__law_product hr (by rfl) (a_cons (e_z (z_ix ix_seq sIx (z_var (pv 1)) (z_ix ix_seq sIx (z_var (pv 0)) z_int))) (a_cons (e_var (pv 7)) (a_cons (e_var (pv 4)) a_nil)))) (a_cons (e_call c G__law_product hr (by rfl) (a_cons (e_z (z_ix ix_seq sIx (z_var (pv 1)) (z_ix ix_seq sIx (z_var (pv 0)) z_int))) (a_cons (e_var (pv 6)) (a_cons (e_var (pv 4)) a_nil)))) a_nil)))))))))))))
theorem ok__law_slopes (T : Tx K mg ca) (G__law_slope : Fo P w K mg base ca 4 "_law_slope" f__law_slope) {f : Addr} {fd : FuncData} (F : Fun K "_law_slopes" "_law_slopes" s__law_slopes f fd) : FnOk P w K mg base (L2.CX P w) 5 f fd ["_law_nodes", "_law_spans_here", "_law_size", "_law_grid_here"] (spP K ca f__law_slopes) :=
  fn_ok F sc__law_slopes fun cdv A outer s H E F0 R hr c => (s_cons (s_set (i := 4) sc__law_slopes.nd rfl (.inr rfl) (e_lst a_nil))
    (s_cons (s_for c (i_list (e_var (pv 0))) (g_name (i := 5) sc__law_slopes.nd rfl (.inr rfl)) (s_one (s_app (pv 4) (e_lc (own := [("_law_k", 6)]) c sc__law_slopes.nd (i_range1 (by rfl) T.range (a_cons (e_var (pv 2)) a_nil)) (blkOk_by (own := [("_law_k", 6)]) (N := ["_law_nodes", "_law_spans_here", "_law_size", "_law_grid_here", "_law_made", "_law_node", "_law_k"]) (sc := defScope s__law_slopes) (by decide +kernel)) (fun _ _ _ _ _ => (g_name (i := 6) sc__law_slopes.nd rfl (.inl rfl))) (fun _ _ _ _ _ => ts_nil) (fun _ _ _ _ _ c => (e_callZ c G__law_slope hr (by rfl) (za_cons (z_var (pv 5)) (za_cons (z_var (pv 1)) (za_cons (z_var (pv 4)) (za_cons (z_var (pv 6)) (za_cons (z_var (pv 3)) za_nil)))))))))))
    (s_one (s_ret (e_mv (pv 4))))))
theorem ok_kind_of (T : Tx K mg ca) (M_Power : MkO P w K mg base ca "Power" ["one", "many"]) (M_Number : MkO P w K mg base ca "Number" ["top", "bottom"]) (M_Unknown : MkO P w K mg base ca "Unknown" ["place"]) (M_Plus : MkO P w K mg base ca "Plus" ["one", "other"]) (M_Minus : MkO P w K mg base ca "Minus" ["one", "other"]) (M_Times : MkO P w K mg base ca "Times" ["one", "other"]) {f : Addr} {fd : FuncData} (F : Fun K "kind_of" "kind_of" s_kind_of f fd) : FnOk P w K mg base (L2.CX P w) 3 f fd ["node"] (spP K ca f_kind_of) :=
  fn_ok F sc_kind_of fun cdv A outer s H E F0 R hr c => (s_cons (s_if (t_cmpZ (op_eqD hr.units) sEq (z_ix ix_seq sIx (z_var (pv 0)) z_int) z_str) (s_one (s_ret (e_make c M_Number hr (by rfl) (a_cons (e_z (z_ix ix_seq sIx (z_var (pv 0)) z_int)) (a_cons (e_z (z_ix ix_seq sIx (z_var (pv 0)) z_int)) a_nil))))) s_nil)
    (s_cons (s_if (t_cmpZ (op_eqD hr.units) sEq (z_ix ix_seq sIx (z_var (pv 0)) z_int) z_str) (s_one (s_ret (e_make c M_Unknown hr (by rfl) (a_cons (e_z (z_ix ix_seq sIx (z_var (pv 0)) z_int)) a_nil)))) s_nil)
    (s_cons (s_if (t_cmpZ (op_eqD hr.units) sEq (z_ix ix_seq sIx (z_var (pv 0)) z_int) z_str) (s_one (s_ret (e_make c M_Plus hr (by rfl) (a_cons (e_z (z_ix ix_seq sIx (z_var (pv 0)) z_int)) (a_cons (e_z (z_ix ix_seq sIx (z_var (pv 0)) z_int)) a_nil))))) s_nil)
    (s_cons (s_if (t_cmpZ (op_eqD hr.units) sEq (z_ix ix_seq sIx (z_var (pv 0)) z_int) z_str) (s_one (s_ret (e_make c M_Minus hr (by rfl) (a_cons (e_z (z_ix ix_seq sIx (z_var (pv 0)) z_int)) (a_cons (e_z (z_ix ix_seq sIx (z_var (pv 0)) z_int)) a_nil))))) s_nil)
    (s_cons (s_if (t_cmpZ (op_eqD hr.units) sEq (z_ix ix_seq sIx (z_var (pv 0)) z_int) z_str) (s_one (s_ret (e_make c M_Times hr (by rfl) (a_cons (e_z (z_ix ix_seq sIx (z_var (pv 0)) z_int)) (a_cons (e_z (z_ix ix_seq sIx (z_var (pv 0)) z_int)) a_nil))))) s_nil)
    (s_one (s_ret (e_make c M_Power hr (by rfl) (a_cons (e_z (z_ix ix_seq sIx (z_var (pv 0)) z_int)) (a_cons (e_z (z_ix ix_seq sIx (z_var (pv 0)) z_int)) a_nil))))))))))
theorem ok_less (T : Tx K mg ca)  {f : Addr} {fd : FuncData} (F : Fun K "less" "less" s_less f fd) : FnOk P w K mg base (L2.CX P w) 1 f fd ["a", "b"] (spP K ca f_less) :=
  fn_ok F sc_less fun cdv A outer s H E F0 R hr c => (s_one (s_ret (e_z (z_cmp op_lt sLt (z_op op_mulW sMul (z_ix ix_seq sIx (z_var (pv 0)) z_int) (z_ix ix_seq sIx (z_var (pv 1)) z_int)) (z_op op_mulW sMul (z_ix ix_seq sIx (z_var (pv 1)) z_int) (z_ix ix_seq sIx (z_var (pv 0)) z_int))))))
theorem ok_span_of (T : Tx K mg ca) (G_less : Fo P w K mg base ca 1 "less" f_less) {f : Addr} {fd : FuncData} (F : Fun K "span_of" "span_of" s_span_of f fd) : FnOk P w K mg base (L2.CX P w) 2 f fd ["low", "high", "grid"] (spP K ca f_span_of) :=
  fn_ok F sc_span_of fun cdv A outer s H E F0 R hr c => (s_cons (s_if (t_valE (e_call c G_less hr (by rfl) (a_cons (e_var (pv 1)) (a_cons (e_var (pv 0)) a_nil)))) (s_one (s_raise c T.x_NoSpan (by rfl))) s_nil)
    (s_one (s_ret (e_tup (a_cons (e_z (z_op op_fdivW sDiv (z_op op_mulW sMul (z_ix ix_seq sIx (z_var (pv 0)) z_int) (z_var (pv 2))) (z_ix ix_seq sIx (z_var (pv 0)) z_int))) (a_cons (e_z (z_un un_neg sNeg (z_op op_fdivW sDiv (z_op op_mulW sMul (z_un un_neg sNeg (z_ix ix_seq sIx (z_var (pv 1)) z_int)) (z_var (pv 2))) (z_ix ix_seq sIx (z_var (pv 1)) z_int)))) a_nil))))))
theorem ok_Number_forth (T : Tx K mg ca) (G_span_of : Fo P w K mg base ca 2 "span_of" f_span_of) {f : Addr} {fd : FuncData} (F : Fun K "forth" "Number.forth" s_Number_forth f fd) : FnOk P w K mg base (L2.CX P w) 3 f fd ["self", "spans", "box", "grid"] (spP K ca f_Number_forth) :=
  fn_ok F sc_Number_forth fun cdv A outer s H E F0 R hr c => (s_one (s_ret (e_call c G_span_of hr (by rfl) (a_cons (e_tup (a_cons (e_z (z_fld T.cl_Number T.na_Number_top (z_var (pv 0)))) (a_cons (e_z (z_fld T.cl_Number T.na_Number_bottom (z_var (pv 0)))) a_nil))) (a_cons (e_tup (a_cons (e_z (z_fld T.cl_Number T.na_Number_top (z_var (pv 0)))) (a_cons (e_z (z_fld T.cl_Number T.na_Number_bottom (z_var (pv 0)))) a_nil))) (a_cons (e_var (pv 3)) a_nil))))))
theorem ok_Unknown_forth (T : Tx K mg ca)  {f : Addr} {fd : FuncData} (F : Fun K "forth" "Unknown.forth" s_Unknown_forth f fd) : FnOk P w K mg base (L2.CX P w) 1 f fd ["self", "spans", "box", "grid"] (spP K ca f_Unknown_forth) :=
  fn_ok F sc_Unknown_forth fun cdv A outer s H E F0 R hr c => (s_one (s_ret (e_z (z_ix ix_seq sIx (z_var (pv 2)) (z_fld T.cl_Unknown T.na_Unknown_place (z_var (pv 0)))))))
theorem ok_add_spans (T : Tx K mg ca)  {f : Addr} {fd : FuncData} (F : Fun K "add_spans" "add_spans" s_add_spans f fd) : FnOk P w K mg base (L2.CX P w) 1 f fd ["a", "b"] (spP K ca f_add_spans) :=
  fn_ok F sc_add_spans fun cdv A outer s H E F0 R hr c => (s_one (s_ret (e_tup (a_cons (e_z (z_op op_add sAdd (z_ix ix_seq sIx (z_var (pv 0)) z_int) (z_ix ix_seq sIx (z_var (pv 1)) z_int))) (a_cons (e_z (z_op op_add sAdd (z_ix ix_seq sIx (z_var (pv 0)) z_int) (z_ix ix_seq sIx (z_var (pv 1)) z_int))) a_nil)))))
theorem ok_Plus_forth (T : Tx K mg ca) (G_add_spans : Fo P w K mg base ca 1 "add_spans" f_add_spans) {f : Addr} {fd : FuncData} (F : Fun K "forth" "Plus.forth" s_Plus_forth f fd) : FnOk P w K mg base (L2.CX P w) 2 f fd ["self", "spans", "box", "grid"] (spP K ca f_Plus_forth) :=
  fn_ok F sc_Plus_forth fun cdv A outer s H E F0 R hr c => (s_one (s_ret (e_call c G_add_spans hr (by rfl) (a_cons (e_z (z_ix ix_seq sIx (z_var (pv 1)) (z_fld T.cl_Plus T.na_Plus_one (z_var (pv 0))))) (a_cons (e_z (z_ix ix_seq sIx (z_var (pv 1)) (z_fld T.cl_Plus T.na_Plus_other (z_var (pv 0))))) a_nil)))))
theorem ok_take_spans (T : Tx K mg ca)  {f : Addr} {fd : FuncData} (F : Fun K "take_spans" "take_spans" s_take_spans f fd) : FnOk P w K mg base (L2.CX P w) 1 f fd ["a", "b"] (spP K ca f_take_spans) :=
  fn_ok F sc_take_spans fun cdv A outer s H E F0 R hr c => (s_one (s_ret (e_tup (a_cons (e_z (z_op op_sub sSub (z_ix ix_seq sIx (z_var (pv 0)) z_int) (z_ix ix_seq sIx (z_var (pv 1)) z_int))) (a_cons (e_z (z_op op_sub sSub (z_ix ix_seq sIx (z_var (pv 0)) z_int) (z_ix ix_seq sIx (z_var (pv 1)) z_int))) a_nil)))))
theorem ok_Minus_forth (T : Tx K mg ca) (G_take_spans : Fo P w K mg base ca 1 "take_spans" f_take_spans) {f : Addr} {fd : FuncData} (F : Fun K "forth" "Minus.forth" s_Minus_forth f fd) : FnOk P w K mg base (L2.CX P w) 2 f fd ["self", "spans", "box", "grid"] (spP K ca f_Minus_forth) :=
  fn_ok F sc_Minus_forth fun cdv A outer s H E F0 R hr c => (s_one (s_ret (e_call c G_take_spans hr (by rfl) (a_cons (e_z (z_ix ix_seq sIx (z_var (pv 1)) (z_fld T.cl_Minus T.na_Minus_one (z_var (pv 0))))) (a_cons (e_z (z_ix ix_seq sIx (z_var (pv 1)) (z_fld T.cl_Minus T.na_Minus_other (z_var (pv 0))))) a_nil)))))
theorem ok_mul_spans (T : Tx K mg ca)  {f : Addr} {fd : FuncData} (F : Fun K "mul_spans" "mul_spans" s_mul_spans f fd) : FnOk P w K mg base (L2.CX P w) 1 f fd ["a", "b", "grid"] (spP K ca f_mul_spans) :=
  fn_ok F sc_mul_spans fun cdv A outer s H E F0 R hr c => (s_cons (s_set (i := 3) sc_mul_spans.nd rfl (.inl rfl) (e_lst (a_cons (e_z (z_op op_mulW sMul (z_ix ix_seq sIx (z_var (pv 0)) z_int) (z_ix ix_seq sIx (z_var (pv 1)) z_int))) (a_cons (e_z (z_op op_mulW sMul (z_ix ix_seq sIx (z_var (pv 0)) z_int) (z_ix ix_seq sIx (z_var (pv 1)) z_int))) (a_cons (e_z (z_op op_mulW sMul (z_ix ix_seq sIx (z_var (pv 0)) z_int) (z_ix ix_seq sIx (z_var (pv 1)) z_int))) (a_cons (e_z (z_op op_mulW sMul (z_ix ix_seq sIx (z_var (pv 0)) z_int) (z_ix ix_seq sIx (z_var (pv 1)) z_int))) a_nil))))))
    (s_one (s_ret (e_tup (a_cons (e_z (z_op op_fdivW sDiv (z_callB (cr_min c.calm) sMinL (by rfl) T.min_ (by decide +kernel) (za_cons (z_var (pv 3)) za_nil)) (z_var (pv 2)))) (a_cons (e_z (z_un un_neg sNeg (z_op op_fdivW sDiv (z_un un_neg sNeg (z_callB (cr_max c.calm) sMaxL (by rfl) T.max_ (by decide +kernel) (za_cons (z_var (pv 3)) za_nil))) (z_var (pv 2))))) a_nil))))))
theorem ok_Times_forth (T : Tx K mg ca) (G_mul_spans : Fo P w K mg base ca 1 "mul_spans" f_mul_spans) {f : Addr} {fd : FuncData} (F : Fun K "forth" "Times.forth" s_Times_forth f fd) : FnOk P w K mg base (L2.CX P w) 2 f fd ["self", "spans", "box", "grid"] (spP K ca f_Times_forth) :=
  fn_ok F sc_Times_forth fun cdv A outer s H E F0 R hr c => (s_one (s_ret (e_call c G_mul_spans hr (by rfl) (a_cons (e_z (z_ix ix_seq sIx (z_var (pv 1)) (z_fld T.cl_Times T.na_Times_one (z_var (pv 0))))) (a_cons (e_z (z_ix ix_seq sIx (z_var (pv 1)) (z_fld T.cl_Times T.na_Times_other (z_var (pv 0))))) (a_cons (e_var (pv 3)) a_nil))))))
theorem ok_multiplied (T : Tx K mg ca)  {f : Addr} {fd : FuncData} (F : Fun K "multiplied" "multiplied" s_multiplied f fd) : FnOk P w K mg base (L2.CX P w) 1 f fd ["a", "many"] (spP K ca f_multiplied) :=
  fn_ok F sc_multiplied fun cdv A outer s H E F0 R hr c => (s_cons (s_set (i := 2) sc_multiplied.nd rfl (.inl rfl) (e_z z_int))
    (s_cons (s_for c (i_range1 (by rfl) T.range (a_cons (e_var (pv 1)) a_nil)) (g_name (i := 3) sc_multiplied.nd rfl (.inl rfl)) (s_one (s_set (i := 2) sc_multiplied.nd rfl (.inl rfl) (e_z (z_op op_mulW sMul (z_var (pv 2)) (z_var (pv 0)))))))
    (s_one (s_ret (e_mv (pv 2))))))
theorem ok_raise_span (T : Tx K mg ca) (G_multiplied : Fo P w K mg base ca 1 "multiplied" f_multiplied) {f : Addr} {fd : FuncData} (F : Fun K "raise_span" "raise_span" s_raise_span f fd) : FnOk P w K mg base (L2.CX P w) 2 f fd ["a", "many", "grid"] (spP K ca f_raise_span) :=
  fn_ok F sc_raise_span fun cdv A outer s H E F0 R hr c => (s_cons (s_set (i := 3) sc_raise_span.nd rfl (.inl rfl) (e_call c G_multiplied hr (by rfl) (a_cons (e_var (pv 2)) (a_cons (e_z (z_op op_sub sSub (z_var (pv 1)) z_int)) a_nil))))
    (s_cons (s_set (i := 4) sc_raise_span.nd rfl (.inl rfl) (e_call c G_multiplied hr (by rfl) (a_cons (e_z (z_ix ix_seq sIx (z_var (pv 0)) z_int)) (a_cons (e_var (pv 1)) a_nil))))
    (s_cons (s_set (i := 5) sc_raise_span.nd rfl (.inl rfl) (e_call c G_multiplied hr (by rfl) (a_cons (e_z (z_ix ix_seq sIx (z_var (pv 0)) z_int)) (a_cons (e_var (pv 1)) a_nil))))
    (s_cons (s_set (i := 6) sc_raise_span.nd rfl (.inl rfl) (e_z (z_callB (call_min2 c.calm) sMin2 (by rfl) T.min_ (by decide +kernel) (za_cons (z_var (pv 4)) (za_cons (z_var (pv 5)) za_nil)))))
    (s_cons (s_if (PW.pt (t_and (t_cmpZ (op_eqD hr.units) sEq (z_op op_mod sMod (z_var (pv 1)) z_int) z_int) (t_and1 (t_chain op_lt sLt op_lt sLt (z_ix ix_seq sIx (z_var (pv 0)) z_int) z_int (z_ix ix_seq sIx (z_var (pv 0)) z_int))))) (s_one (s_set (i := 6) sc_raise_span.nd rfl (.inl rfl) (e_z z_int))) s_nil)
    (s_one (s_ret (e_tup (a_cons (e_z (z_op op_fdivW sDiv (z_var (pv 6)) (z_var (pv 3)))) (a_cons (e_z (z_un un_neg sNeg (z_op op_fdivW sDiv (z_un un_neg sNeg (z_callB (call_max2 c.calm) sMax2 (by rfl) T.max_ (by decide +kernel) (za_cons (z_var (pv 4)) (za_cons (z_var (pv 5)) za_nil)))) (z_var (pv 3))))) a_nil))))))))))
theorem ok_Power_forth (T : Tx K mg ca) (G_raise_span : Fo P w K mg base ca 2 "raise_span" f_raise_span) {f : Addr} {fd : FuncData} (F : Fun K "forth" "Power.forth" s_Power_forth f fd) : FnOk P w K mg base (L2.CX P w) 3 f fd ["self", "spans", "box", "grid"] (spP K ca f_Power_forth) :=
  fn_ok F sc_Power_forth fun cdv A outer s H E F0 R hr c => (s_one (s_ret (e_call c G_raise_span hr (by rfl) (a_cons (e_z (z_ix ix_seq sIx (z_var (pv 1)) (z_fld T.cl_Power T.na_Power_one (z_var (pv 0))))) (a_cons (e_z (z_fld T.cl_Power T.na_Power_many (z_var (pv 0)))) (a_cons (e_var (pv 3)) a_nil))))))
theorem ok_worths (T : Tx K mg ca) (G_kind_of : Fo P w K mg base ca 3 "kind_of" f_kind_of) (A_forth : MAll P w K mg base ca 3 "forth" al_forth) {f : Addr} {fd : FuncData} (F : Fun K "worths" "worths" s_worths f fd) : FnOk P w K mg base (L2.CX P w) 4 f fd ["nodes", "box", "grid"] (spP K ca f_worths) :=
  fn_ok F sc_worths fun cdv A outer s H E F0 R hr c => (s_cons (s_set (i := 3) sc_worths.nd rfl (.inl rfl) (e_lst a_nil))
    (s_cons (s_for c (i_list (e_var (pv 0))) (g_name (i := 4) sc_worths.nd rfl (.inl rfl)) (s_one (s_app (pv 3) (e_methZ c A_forth hr (e_call c G_kind_of hr (by rfl) (a_cons (e_var (pv 4)) a_nil)) (za_cons (z_var (pv 3)) (za_cons (z_var (pv 1)) (za_cons (z_var (pv 2)) za_nil)))))))
    (s_one (s_ret (e_mv (pv 3))))))
theorem ok_flat (T : Tx K mg ca)  {f : Addr} {fd : FuncData} (F : Fun K "flat" "flat" s_flat f fd) : FnOk P w K mg base (L2.CX P w) 1 f fd ["size"] (spP K ca f_flat) :=
  fn_ok F sc_flat fun cdv A outer s H E F0 R hr c => (s_one (s_ret (e_lc (own := [("k", 1)]) c sc_flat.nd (i_range1 (by rfl) T.range (a_cons (e_var (pv 0)) a_nil)) (blkOk_by (own := [("k", 1)]) (N := ["size", "k"]) (sc := defScope s_flat) (by decide +kernel)) (fun _ _ _ _ _ => (g_name (i := 1) sc_flat.nd rfl (.inl rfl))) (fun _ _ _ _ _ => ts_nil) (fun _ _ _ _ _ c => (e_tup (a_cons (e_z z_int) (a_cons (e_z z_int) a_nil)))))))
theorem ok_scale_span (T : Tx K mg ca)  {f : Addr} {fd : FuncData} (F : Fun K "scale_span" "scale_span" s_scale_span f fd) : FnOk P w K mg base (L2.CX P w) 1 f fd ["a", "many"] (spP K ca f_scale_span) :=
  fn_ok F sc_scale_span fun cdv A outer s H E F0 R hr c => (s_one (s_ret (e_tup (a_cons (e_z (z_callB (call_min2 c.calm) sMin2 (by rfl) T.min_ (by decide +kernel) (za_cons (z_op op_mulW sMul (z_ix ix_seq sIx (z_var (pv 0)) z_int) (z_var (pv 1))) (za_cons (z_op op_mulW sMul (z_ix ix_seq sIx (z_var (pv 0)) z_int) (z_var (pv 1))) za_nil)))) (a_cons (e_z (z_callB (call_max2 c.calm) sMax2 (by rfl) T.max_ (by decide +kernel) (za_cons (z_op op_mulW sMul (z_ix ix_seq sIx (z_var (pv 0)) z_int) (z_var (pv 1))) (za_cons (z_op op_mulW sMul (z_ix ix_seq sIx (z_var (pv 0)) z_int) (z_var (pv 1))) za_nil)))) a_nil)))))
theorem ok_rise (T : Tx K mg ca) (G_scale_span : Fo P w K mg base ca 1 "scale_span" f_scale_span) (G_raise_span : Fo P w K mg base ca 2 "raise_span" f_raise_span) {f : Addr} {fd : FuncData} (F : Fun K "rise" "rise" s_rise f fd) : FnOk P w K mg base (L2.CX P w) 3 f fd ["span", "many", "grid"] (spP K ca f_rise) :=
  fn_ok F sc_rise fun cdv A outer s H E F0 R hr c => (s_cons (s_if (t_cmpZ (op_eqD hr.units) sEq (z_var (pv 1)) z_int) (s_one (s_ret (e_call c G_scale_span hr (by rfl) (a_cons (e_var (pv 0)) (a_cons (e_z z_int) a_nil))))) s_nil)
    (s_one (s_ret (e_call c G_scale_span hr (by rfl) (a_cons (e_call c G_raise_span hr (by rfl) (a_cons (e_var (pv 0)) (a_cons (e_z (z_op op_sub sSub (z_var (pv 1)) z_int)) (a_cons (e_var (pv 2)) a_nil)))) (a_cons (e_var (pv 1)) a_nil))))))
theorem ok_slope_of (T : Tx K mg ca) (G_flat : Fo P w K mg base ca 1 "flat" f_flat) (G_rise : Fo P w K mg base ca 3 "rise" f_rise) (G_mul_spans : Fo P w K mg base ca 1 "mul_spans" f_mul_spans) (G_add_spans : Fo P w K mg base ca 1 "add_spans" f_add_spans) (G_take_spans : Fo P w K mg base ca 1 "take_spans" f_take_spans) {f : Addr} {fd : FuncData} (F : Fun K "slope_of" "slope_of" s_slope_of f fd) : FnOk P w K mg base (L2.CX P w) 4 f fd ["node", "spans", "made", "size", "grid"] (spP K ca f_slope_of) :=
  fn_ok F sc_slope_of fun cdv A outer s H E F0 R hr c => (s_cons (s_set (i := 5) sc_slope_of.nd rfl (.inl rfl) (e_z (z_ix ix_seq sIx (z_var (pv 0)) z_int)))
    (s_cons (s_if (t_cmpZ (op_eqD hr.units) sEq (z_var (pv 5)) z_str) (s_one (s_ret (e_call c G_flat hr (by rfl) (a_cons (e_var (pv 3)) a_nil)))) s_nil)
    (s_cons (s_if (t_cmpZ (op_eqD hr.units) sEq (z_var (pv 5)) z_str) (s_cons (s_set (i := 6) sc_slope_of.nd rfl (.inl rfl) (e_call c G_flat hr (by rfl) (a_cons (e_var (pv 3)) a_nil)))
    (s_cons (s_setIx (pv 6) (z_ix ix_seq sIx (z_var (pv 0)) z_int) (e_tup (a_cons (e_var (pv 4)) (a_cons (e_var (pv 4)) a_nil))))
    (s_one (s_ret (e_mv (pv 6)))))) s_nil)
    (s_cons (s_set (i := 7) sc_slope_of.nd rfl (.inr rfl) (e_z (z_ix ix_seq sIx (z_var (pv 2)) (z_ix ix_seq sIx (z_var (pv 0)) z_int))))
    (s_cons (s_if (t_cmpZ (op_eqD hr.units) sEq (z_var (pv 5)) z_str) (s_cons (s_set (i := 8) sc_slope_of.nd rfl (.inr rfl) (e_call c G_rise hr (by rfl) (a_cons (e_z (z_ix ix_seq sIx (z_var (pv 1)) (z_ix ix_seq sIx (z_var (pv 0)) z_int))) (a_cons (e_z (z_ix ix_seq sIx (z_var (pv 0)) z_int)) (a_cons (e_var (pv 4)) a_nil)))))
    (s_one (s_ret (e_lc (own := [("part", 9)]) c sc_slope_of.nd (i_list (e_var (pv 7))) (blkOk_by (own := [("part", 9)]) (N := ["node", "spans", "made", "size", "grid", "sort", "row", "one", "factor", "part", "other", "k", "first"]) (sc := defScope s_slope_of) (by decide +kernel)) (fun _ _ _ _ _ => (g_name (i := 9) sc_slope_of.nd rfl (.inl rfl))) (fun _ _ _ _ _ => ts_nil) (fun _ _ _ _ _ c => (e_call c G_mul_spans hr (by rfl) (a_cons (e_var (pv 8)) (a_cons (e_var (pv 9)) (a_cons (e_var (pv 4)) a_nil))))))))) s_nil)
    (s_cons (s_set (i := 10) sc_slope_of.nd rfl (.inr rfl) (e_z (z_ix ix_seq sIx (z_var (pv 2)) (z_ix ix_seq sIx (z_var (pv 0)) z_int))))
    (s_cons (s_if (t_cmpZ (op_eqD hr.units) sEq (z_var (pv 5)) z_str) (s_one (s_ret (e_lc (own := [("k", 11)]) c sc_slope_of.nd (i_range1 (by rfl) T.range (a_cons (e_var (pv 3)) a_nil)) (blkOk_by (own := [("k", 11)]) (N := ["node", "spans", "made", "size", "grid", "sort", "row", "one", "factor", "part", "other", "k", "first"]) (sc := defScope s_slope_of) (by decide +kernel)) (fun _ _ _ _ _ => (g_name (i := 11) sc_slope_of.nd rfl (.inl rfl))) (fun _ _ _ _ _ => ts_nil) (fun _ _ _ _ _ c => (e_call c G_add_spans hr (by rfl) (a_cons (e_z (z_ix ix_seq sIx (z_var (pv 7)) (z_var (pv 11)))) (a_cons (e_z (z_ix ix_seq sIx (z_var (pv 10)) (z_var (pv 11)))) a_nil))))))) s_nil)
    (s_cons (s_if (t_cmpZ (op_eqD hr.units) sEq (z_var (pv 5)) z_str) (s_one (s_ret (e_lc (own := [("k", 11)]) c sc_slope_of.nd (i_range1 (by rfl) T.range (a_cons (e_var (pv 3)) a_nil)) (blkOk_by (own := [("k", 11)]) (N := ["node", "spans", "made", "size", "grid", "sort", "row", "one", "factor", "part", "other", "k", "first"]) (sc := defScope s_slope_of) (by decide +kernel)) (fun _ _ _ _ _ => (g_name (i := 11) sc_slope_of.nd rfl (.inl rfl))) (fun _ _ _ _ _ => ts_nil) (fun _ _ _ _ _ c => (e_call c G_take_spans hr (by rfl) (a_cons (e_z (z_ix ix_seq sIx (z_var (pv 7)) (z_var (pv 11)))) (a_cons (e_z (z_ix ix_seq sIx (z_var (pv 10)) (z_var (pv 11)))) a_nil))))))) s_nil)
    (s_cons (s_set (i := 6) sc_slope_of.nd rfl (.inl rfl) (e_lst a_nil))
    (s_cons (s_for c (i_range1 (by rfl) T.range (a_cons (e_var (pv 3)) a_nil)) (g_name (i := 11) sc_slope_of.nd rfl (.inl rfl)) (s_cons (s_set (i := 12) sc_slope_of.nd rfl (.inl rfl) (e_call c G_mul_spans hr (by rfl) (a_cons (e_z (z_ix ix_seq sIx (z_var (pv 1)) (z_ix ix_seq sIx (z_var (pv 0)) z_int))) (a_cons (e_z (z_ix ix_seq sIx (z_var (pv 10)) (z_var (pv 11)))) (a_cons (e_var (pv 4)) a_nil)))))
    (s_one (s_app (pv 6) (e_call c G_add_spans hr (by rfl) (a_cons (e_var (pv 12)) (a_cons (e_call c G_mul_spans hr (by rfl) (a_cons (e_z (z_ix ix_seq sIx (z_var (pv 1)) (z_ix ix_seq sIx (z_var (pv 0)) z_int))) (a_cons (e_z (z_ix ix_seq sIx (z_var (pv 7)) (z_var (pv 11)))) (a_cons (e_var (pv 4)) a_nil)))) a_nil)))))))
    (s_one (s_ret (e_mv (pv 6))))))))))))))
theorem ok_slopes (T : Tx K mg ca) (G_worths : Fo P w K mg base ca 4 "worths" f_worths) (G_slope_of : Fo P w K mg base ca 4 "slope_of" f_slope_of) {f : Addr} {fd : FuncData} (F : Fun K "slopes" "slopes" s_slopes f fd) : FnOk P w K mg base (L2.CX P w) 5 f fd ["nodes", "box", "grid"] (spP K ca f_slopes) :=
  fn_ok F sc_slopes fun cdv A outer s H E F0 R hr c => (s_cons (s_set (i := 3) sc_slopes.nd rfl (.inl rfl) (e_call c G_worths hr (by rfl) (a_cons (e_var (pv 0)) (a_cons (e_var (pv 1)) (a_cons (e_var (pv 2)) a_nil)))))
    (s_cons (s_set (i := 4) sc_slopes.nd rfl (.inl rfl) (e_lst a_nil))
    (s_cons (s_for c (i_list (e_var (pv 0))) (g_name (i := 5) sc_slopes.nd rfl (.inl rfl)) (s_one (s_app (pv 4) (e_callZ c G_slope_of hr (by rfl) (za_cons (z_var (pv 5)) (za_cons (z_var (pv 3)) (za_cons (z_var (pv 4)) (za_cons (z_callB call_len sLen (by rfl) T.len_ (by decide +kernel) (za_cons (z_var (pv 1)) za_nil)) (za_cons (z_var (pv 2)) za_nil)))))))))
    (s_one (s_ret (e_mv (pv 4)))))))
theorem ok__law_whole (T : Tx K mg ca)  {f : Addr} {fd : FuncData} (F : Fun K "_law_whole" "_law_whole" s__law_whole f fd) : FnOk P w K mg base (L2.CX P w) 1 f fd ["_law_found"] (spP K ca f__law_whole) :=
  fn_ok F sc__law_whole fun cdv A outer s H E F0 R hr c => (s_one (s_ret (e_and (e_z (z_callB call_isi sIsi (by rfl) T.isinstance (by decide +kernel) (za_cons (z_var (pv 0)) (za_cons (z_ty (by rfl) T.int_ (by decide +kernel)) za_nil)))) (e_one (e_not (e_z (z_callB call_isi sIsi (by rfl) T.isinstance (by decide +kernel) (za_cons (z_var (pv 0)) (za_cons (z_ty (by rfl) T.bool_ (by decide +kernel)) za_nil)))))))))
theorem ok__law_span (T : Tx K mg ca) (G__law_whole : Fo P w K mg base ca 1 "_law_whole" f__law_whole) {f : Addr} {fd : FuncData} (F : Fun K "_law_span" "_law_span" s__law_span f fd) : FnOk P w K mg base (L2.CX P w) 2 f fd ["_law_found"] (spP K ca f__law_span) :=
  fn_ok F sc__law_span fun cdv A outer s H E F0 R hr c => (s_cons (s_if (PW.pt (t_or (t_not (t_valZ (z_callB call_isi sIsi (by rfl) T.isinstance (by decide +kernel) (za_cons (z_var (pv 0)) (za_cons (z_ty (by rfl) T.tuple_ (by decide +kernel)) za_nil))))) (t_or1 (t_cmpZ (op_neD hr.units) sNe (z_callB call_len sLen (by rfl) T.len_ (by decide +kernel) (za_cons (z_var (pv 0)) za_nil)) z_int)))) (s_one (s_ret (e_z z_bl))) s_nil)
    (s_one (s_ret (e_and (e_call c G__law_whole hr (by rfl) (a_cons (e_z (z_ix ix_seq sIx (z_var (pv 0)) z_int)) a_nil)) (e_and (e_call c G__law_whole hr (by rfl) (a_cons (e_z (z_ix ix_seq sIx (z_var (pv 0)) z_int)) a_nil)) (e_one (e_z (z_cmp op_le sLe (z_ix ix_seq sIx (z_var (pv 0)) z_int) (z_ix ix_seq sIx (z_var (pv 0)) z_int)))))))))
theorem ok__law_spans (T : Tx K mg ca) (G__law_span : Fo P w K mg base ca 2 "_law_span" f__law_span) {f : Addr} {fd : FuncData} (F : Fun K "_law_spans" "_law_spans" s__law_spans f fd) : FnOk P w K mg base (L2.CX P w) 3 f fd ["_law_found", "_law_size"] (spP K ca f__law_spans) :=
  fn_ok F sc__law_spans fun cdv A outer s H E F0 R hr c => (s_cons (s_if (PW.pt (t_or (t_not (t_valZ (z_callB call_isi sIsi (by rfl) T.isinstance (by decide +kernel) (za_cons (z_var (pv 0)) (za_cons (z_ty (by rfl) T.list_ (by decide +kernel)) za_nil))))) (t_or1 (t_cmpZ (op_neD hr.units) sNe (z_callB call_len sLen (by rfl) T.len_ (by decide +kernel) (za_cons (z_var (pv 0)) za_nil)) (z_var (pv 1)))))) (s_one (s_ret (e_z z_bl))) s_nil)
    (s_cons (s_for c (i_list (e_var (pv 0))) (g_name (i := 2) sc__law_spans.nd rfl (.inl rfl)) (s_one (s_if (t_not (t_valE (e_call c G__law_span hr (by rfl) (a_cons (e_var (pv 2)) a_nil)))) (s_one (s_ret (e_z z_bl))) s_nil)))
    (s_one (s_ret (e_z z_bl)))))
theorem ok__law_lists (T : Tx K mg ca) (G__law_spans : Fo P w K mg base ca 3 "_law_spans" f__law_spans) {f : Addr} {fd : FuncData} (F : Fun K "_law_lists" "_law_lists" s__law_lists f fd) : FnOk P w K mg base (L2.CX P w) 4 f fd ["_law_found", "_law_due"] (spP K ca f__law_lists) :=
  fn_ok F sc__law_lists fun cdv A outer s H E F0 R hr c => (s_cons (s_if (PW.pt (t_or (t_not (t_valZ (z_callB call_isi sIsi (by rfl) T.isinstance (by decide +kernel) (za_cons (z_var (pv 0)) (za_cons (z_ty (by rfl) T.list_ (by decide +kernel)) za_nil))))) (t_or1 (t_cmpZ (op_neD hr.units) sNe (z_callB call_len sLen (by rfl) T.len_ (by decide +kernel) (za_cons (z_var (pv 0)) za_nil)) (z_callB call_len sLen (by rfl) T.len_ (by decide +kernel) (za_cons (z_var (pv 1)) za_nil)))))) (s_one (s_ret (e_z z_bl))) s_nil)
    (s_cons (s_for c (i_range1 (by rfl) T.range (a_cons (e_z (z_callB call_len sLen (by rfl) T.len_ (by decide +kernel) (za_cons (z_var (pv 1)) za_nil))) a_nil)) (g_name (i := 2) sc__law_lists.nd rfl (.inl rfl)) (s_one (s_if (PW.pt (t_or (t_not (t_valE (e_call c G__law_spans hr (by rfl) (a_cons (e_z (z_ix ix_seq sIx (z_var (pv 0)) (z_var (pv 2)))) (a_cons (e_z (z_callB call_len sLen (by rfl) T.len_ (by decide +kernel) (za_cons (z_ix ix_seq sIx (z_var (pv 1)) (z_var (pv 2))) za_nil))) a_nil))))) (t_or1 (t_cmpZ (op_neD hr.units) sNe (z_ix ix_seq sIx (z_var (pv 0)) (z_var (pv 2))) (z_ix ix_seq sIx (z_var (pv 1)) (z_var (pv 2))))))) (s_one (s_ret (e_z z_bl))) s_nil)))
    (s_one (s_ret (e_z z_bl)))))
theorem ok__law_cell (T : Tx K mg ca)  {f : Addr} {fd : FuncData} (F : Fun K "_law_cell" "_law_cell" s__law_cell f fd) : FnOk P w K mg base (L2.CX P w) 1 f fd ["_law_script", "_law_k"] (spP K ca f__law_cell) :=
  fn_ok F sc__law_cell fun cdv A outer s H E F0 R hr c => (s_cons (s_if (t_cmpZ op_lt sLt (z_var (pv 1)) (z_callB call_len sLen (by rfl) T.len_ (by decide +kernel) (za_cons (z_var (pv 0)) za_nil))) (s_one (s_ret (e_z (z_ix ix_seq sIx (z_var (pv 0)) (z_var (pv 1)))))) s_nil)
    (s_one (s_ret (e_z z_int))))
theorem ok__law_side (T : Tx K mg ca)  {f : Addr} {fd : FuncData} (F : Fun K "_law_side" "_law_side" s__law_side f fd) : FnOk P w K mg base (L2.CX P w) 1 f fd ["_law_cell_here", "_law_other"] (spP K ca f__law_side) :=
  fn_ok F sc__law_side fun cdv A outer s H E F0 R hr c => (s_cons (s_set (i := 2) sc__law_side.nd rfl (.inl rfl) (e_z (z_op op_sub sSub (z_op op_mod sMod (z_op op_fdivW sDiv (z_var (pv 0)) z_int) z_int) z_int)))
    (s_cons (s_if (t_cmpZ (op_eqD hr.units) sEq (z_op op_mod sMod (z_var (pv 0)) z_int) z_int) (s_one (s_set (i := 2) sc__law_side.nd rfl (.inl rfl) (e_z (z_op op_sub sSub (z_op op_mod sMod (z_op op_fdivW sDiv (z_var (pv 0)) z_int) z_int) z_int)))) s_nil)
    (s_cons (s_set (i := 3) sc__law_side.nd rfl (.inl rfl) (e_z (z_op op_mod sMod (z_op op_fdivW sDiv (z_var (pv 1)) z_int) z_int)))
    (s_cons (s_if (t_cmpZ (op_eqD hr.units) sEq (z_op op_mod sMod (z_var (pv 1)) z_int) z_int) (s_one (s_set (i := 3) sc__law_side.nd rfl (.inl rfl) (e_z (z_op op_mod sMod (z_op op_fdivW sDiv (z_var (pv 1)) z_int) z_int)))) s_nil)
    (s_cons (s_if (t_cmpZ (op_eqD hr.units) sEq (z_op op_mod sMod (z_var (pv 1)) z_int) z_int) (s_one (s_set (i := 3) sc__law_side.nd rfl (.inl rfl) (e_z (z_op op_mod sMod (z_op op_fdivW sDiv (z_var (pv 1)) z_int) z_int)))) s_nil)
    (s_one (s_ret (e_tup (a_cons (e_var (pv 2)) (a_cons (e_z (z_op op_add sAdd (z_var (pv 2)) (z_var (pv 3)))) a_nil))))))))))
theorem ok__law_lowest (T : Tx K mg ca)  {f : Addr} {fd : FuncData} (F : Fun K "_law_lowest" "_law_lowest" s__law_lowest f fd) : FnOk P w K mg base (L2.CX P w) 1 f fd ["_law_top", "_law_bottom"] (spP K ca f__law_lowest) :=
  fn_ok F sc__law_lowest fun cdv A outer s H E F0 R hr c => (s_cons (s_set (i := 2) sc__law_lowest.nd rfl (.inl rfl) (e_z (z_callB call_abs sAbs (by rfl) T.abs_ (by decide +kernel) (za_cons (z_var (pv 0)) za_nil))))
    (s_cons (s_set (i := 3) sc__law_lowest.nd rfl (.inl rfl) (e_var (pv 1)))
    (s_cons (s_while c fuel__law_lowest1 (t_cmpZ (op_neD hr.units) sNe (z_var (pv 3)) z_int) (s_one (s_par (i := 2) (j := 3) c sc__law_lowest.nd rfl rfl (by decide) rfl rfl (a_cons (e_var (pv 3)) (a_cons (e_z (z_op op_mod sMod (z_var (pv 2)) (z_var (pv 3)))) a_nil)))))
    (s_one (s_ret (e_tup (a_cons (e_z (z_op op_fdivW sDiv (z_var (pv 0)) (z_var (pv 2)))) (a_cons (e_z (z_op op_fdivW sDiv (z_var (pv 1)) (z_var (pv 2)))) a_nil))))))))
theorem ok__law_number (T : Tx K mg ca) (G__law_lowest : Fo P w K mg base ca 1 "_law_lowest" f__law_lowest) {f : Addr} {fd : FuncData} (F : Fun K "_law_number" "_law_number" s__law_number f fd) : FnOk P w K mg base (L2.CX P w) 2 f fd ["_law_cell_here"] (spP K ca f__law_number) :=
  fn_ok F sc__law_number fun cdv A outer s H E F0 R hr c => (s_cons (s_if (t_cmpZ (op_eqD hr.units) sEq (z_op op_mod sMod (z_var (pv 0)) z_int) z_int) (s_one (s_ret (e_call c G__law_lowest hr (by rfl) (a_cons (e_z (z_op op_sub sSub (z_op op_mod sMod (z_op op_fdivW sDiv (z_var (pv 0)) z_int) z_int) z_int)) (a_cons (e_z (z_op op_add sAdd z_int (z_op op_mod sMod (z_op op_mul sMulS (z_var (pv 0)) z_int) z_int))) a_nil))))) s_nil)
    (s_cons (s_if (t_cmpZ (op_eqD hr.units) sEq (z_op op_mod sMod (z_var (pv 0)) z_int) z_int) (s_one (s_ret (e_tup (a_cons (e_z (z_op op_sub sSub (z_op op_mod sMod (z_op op_fdivW sDiv (z_var (pv 0)) z_int) z_int) z_int)) (a_cons (e_z z_int) a_nil))))) s_nil)
    (s_one (s_ret (e_call c G__law_lowest hr (by rfl) (a_cons (e_z (z_op op_sub sSub (z_op op_mod sMod (z_op op_fdivW sDiv (z_var (pv 0)) z_int) z_int) z_int)) (a_cons (e_z (z_op op_add sAdd z_int (z_op op_mod sMod (z_op op_fdivW sDiv (z_var (pv 0)) z_int) z_int))) a_nil)))))))
theorem ok__law_put (T : Tx K mg ca)  {f : Addr} {fd : FuncData} (F : Fun K "_law_put" "_law_put" s__law_put f fd) : FnOk P w K mg base (L2.CX P w) 1 f fd ["_law_nodes", "_law_heavy", "_law_node", "_law_weight"] (spIO K ca 2 f__law_put) :=
  fn_okIO F sc__law_put (by decide) fun cdv A outer s H E F0 R us ul hr c => match us, ul with | [v0, v1], _ => (show PSs _ _ (rdS K ⟨ca, F0, R, [(0, v0), (1, v1)]⟩ _ _) from (s_cons (s_if (t_cmpZ (op_inD (units65 hr)) sInD (z_var (pv 2)) (z_var (pv 0))) (s_one (s_ret (e_z (z_index hr (z_var (pv 0)) (z_var (pv 2)))))) s_nil)
    (s_cons (s_app (pv 0) (e_var (pv 2)))
    (s_cons (s_app (pv 1) (e_var (pv 3)))
    (s_one (s_ret (e_z (z_op op_sub sSub (z_callB call_len sLen (by rfl) T.len_ (by decide +kernel) (za_cons (z_var (pv 0)) za_nil)) z_int))))))))
theorem ok__law_grow (T : Tx K mg ca) (G__law_number : Fo P w K mg base ca 2 "_law_number" f__law_number) (G__law_put : FoI P w K mg base ca 1 "_law_put" 2 f__law_put) {f : Addr} {fd : FuncData} (F : Fun K "_law_grow" "_law_grow" s__law_grow f fd) : FnOk P w K mg base (L2.CX P w) 3 f fd ["_law_nodes", "_law_heavy", "_law_cell_here", "_law_most"] (spIO K ca 2 f__law_grow) :=
  fn_okIO F sc__law_grow (by decide) fun cdv A outer s H E F0 R us ul hr c => match us, ul with | [v0, v1], _ => (show PSs _ _ (rdS K ⟨ca, F0, R, [(0, v0), (1, v1)]⟩ _ _) from (s_cons (s_set (i := 4) sc__law_grow.nd rfl (.inl rfl) (e_z (z_op op_mod sMod (z_op op_mod sMod (z_op op_fdivW sDiv (z_var (pv 2)) z_int) z_int) (z_callB call_len sLen (by rfl) T.len_ (by decide +kernel) (za_cons (z_var (pv 0)) za_nil)))))
    (s_cons (s_set (i := 5) sc__law_grow.nd rfl (.inl rfl) (e_z (z_op op_mod sMod (z_op op_mod sMod (z_op op_fdivW sDiv (z_var (pv 2)) z_int) z_int) (z_callB call_len sLen (by rfl) T.len_ (by decide +kernel) (za_cons (z_var (pv 0)) za_nil)))))
    (s_cons (s_set (i := 6) sc__law_grow.nd rfl (.inl rfl) (e_z (z_op op_add sAdd (z_ix ix_seq sIx (z_var (pv 1)) (z_var (pv 4))) (z_ix ix_seq sIx (z_var (pv 1)) (z_var (pv 5))))))
    (s_one (s_if (t_cmpZ (op_eqD hr.units) sEq (z_op op_mod sMod (z_var (pv 2)) z_int) z_int) (s_cons (s_set (i := 7) sc__law_grow.nd rfl (.inl rfl) (e_callZ c G__law_number hr (by rfl) (za_cons (z_op op_fdivW sDiv (z_var (pv 2)) z_int) za_nil)))
    (s_one (s_expr (e_callI c G__law_put hr (by rfl) (pa_io (pv 0) (pa_io (pv 1) (pa_io0 (a_cons (e_tup (a_cons (e_z z_str) (a_cons (e_z (z_ix ix_seq sIx (z_var (pv 7)) z_int)) (a_cons (e_z (z_ix ix_seq sIx (z_var (pv 7)) z_int)) a_nil)))) (a_cons (e_z z_int) a_nil))))))))) (s_one (s_if (t_cmpZ (op_eqD hr.units) sEq (z_op op_mod sMod (z_var (pv 2)) z_int) z_int) (s_cons (s_set (i := 8) sc__law_grow.nd rfl (.inl rfl) (e_z (z_op op_add sAdd z_int (z_op op_mod sMod (z_op op_fdivW sDiv (z_var (pv 2)) z_int) z_int))))
    (s_one (s_if (t_cmpZ op_le sLe (z_op op_mulW sMul (z_var (pv 8)) (z_ix ix_seq sIx (z_var (pv 1)) (z_var (pv 4)))) (z_var (pv 3))) (s_one (s_expr (e_callI c G__law_put hr (by rfl) (pa_io (pv 0) (pa_io (pv 1) (pa_io0 (a_cons (e_tup (a_cons (e_z z_str) (a_cons (e_var (pv 4)) (a_cons (e_var (pv 8)) a_nil)))) (a_cons (e_z (z_op op_mulW sMul (z_var (pv 8)) (z_ix ix_seq sIx (z_var (pv 1)) (z_var (pv 4))))) a_nil)))))))) s_nil))) (s_one (s_if (t_cmpZ op_le sLe (z_var (pv 6)) (z_var (pv 3))) (s_cons (s_set (i := 9) sc__law_grow.nd rfl (.inl rfl) (e_ix ix_seq sIx (e_lst (a_cons (e_z z_str) (a_cons (e_z z_str) (a_cons (e_z z_str) a_nil)))) (e_z (z_op op_mod sMod (z_op op_mod sMod (z_var (pv 2)) z_int) z_int))))
    (s_one (s_expr (e_callI c G__law_put hr (by rfl) (pa_io (pv 0) (pa_io (pv 1) (pa_io0 (a_cons (e_tup (a_cons (e_var (pv 9)) (a_cons (e_var (pv 4)) (a_cons (e_var (pv 5)) a_nil)))) (a_cons (e_var (pv 6)) a_nil))))))))) s_nil))))))))))
theorem ok__law_forth (T : Tx K mg ca) (G__law_product : Fo P w K mg base ca 1 "_law_product" f__law_product) (G__law_raised : Fo P w K mg base ca 2 "_law_raised" f__law_raised) (G__law_plus : Fo P w K mg base ca 1 "_law_plus" f__law_plus) (G__law_less : Fo P w K mg base ca 1 "_law_less" f__law_less) {f : Addr} {fd : FuncData} (F : Fun K "_law_forth" "_law_forth" s__law_forth f fd) : FnOk P w K mg base (L2.CX P w) 3 f fd ["_law_node", "_law_spans_here", "_law_box", "_law_grid_here"] (spP K ca f__law_forth) :=
  fn_ok F sc__law_forth fun cdv A outer s H E F0 R hr c => (s_cons (s_set (i := 4) sc__law_forth.nd rfl (.inl rfl) (e_z (z_ix ix_seq sIx (z_var (pv 0)) z_int)))
    (s_cons (s_if (t_cmpZ (op_eqD hr.units) sEq (z_var (pv 4)) z_str) (s_one (s_ret (e_tup (a_cons (e_z (z_op op_fdivW sDiv (z_op op_mulW sMul (z_ix ix_seq sIx (z_var (pv 0)) z_int) (z_var (pv 3))) (z_ix ix_seq sIx (z_var (pv 0)) z_int))) (a_cons (e_z (z_un un_neg sNeg (z_op op_fdivW sDiv (z_op op_mulW sMul (z_un un_neg sNeg (z_ix ix_seq sIx (z_var (pv 0)) z_int)) (z_var (pv 3))) (z_ix ix_seq sIx (z_var (pv 0)) z_int)))) a_nil))))) s_nil)
    (s_cons (s_if (t_cmpZ (op_eqD hr.units) sEq (z_var (pv 4)) z_str) (s_one (s_ret (e_z (z_ix ix_seq sIx (z_var (pv 2)) (z_ix ix_seq sIx (z_var (pv 0)) z_int))))) s_nil)
    (s_cons (s_set (i := 5) sc__law_forth.nd rfl (.inl rfl) (e_z (z_ix ix_seq sIx (z_var (pv 1)) (z_ix ix_seq sIx (z_var (pv 0)) z_int))))
    (s_cons (s_if (t_cmpZ (op_eqD hr.units) sEq (z_var (pv 4)) z_str) (s_one (s_ret (e_call c G__law_raised hr (by rfl) (a_cons (e_var (pv 5)) (a_cons (e_z (z_ix ix_seq sIx (z_var (pv 0)) z_int)) (a_cons (e_var (pv 3)) a_nil)))))) s_nil)
    (s_cons (s_set (i := 6) sc__law_forth.nd rfl (.inl rfl) (e_z (z_ix ix_seq sIx (z_var (pv 1)) (z_ix ix_seq sIx (z_var (pv 0)) z_int))))
    (s_cons (s_if (t_cmpZ (op_eqD hr.units) sEq (z_var (pv 4)) z_str) (s_one (s_ret (e_call c G__law_plus hr (by rfl) (a_cons (e_var (pv 5)) (a_cons (e_var (pv 6)) a_nil))))) s_nil)
    (s_cons (s_if (t_cmpZ (op_eqD hr.units) sEq (z_var (pv 4)) z_str) (s_one (s_ret (e_call c G__law_less hr (by rfl) (a_cons (e_var (pv 5)) (a_cons (e_var (pv 6)) a_nil))))) s_nil)
    (s_one (s_ret (e_call c G__law_product hr (by rfl) (a_cons (e_var (pv 5)) (a_cons (e_var (pv 6)) (a_cons (e_var (pv 3)) a_nil))))))))))))))
theorem ok__law_worths (T : Tx K mg ca) (G__law_forth : Fo P w K mg base ca 3 "_law_forth" f__law_forth) {f : Addr} {fd : FuncData} (F : Fun K "_law_worths" "_law_worths" s__law_worths f fd) : FnOk P w K mg base (L2.CX P w) 4 f fd ["_law_nodes", "_law_box", "_law_grid_here"] (spP K ca f__law_worths) :=
  fn_ok F sc__law_worths fun cdv A outer s H E F0 R hr c => (s_cons (s_set (i := 3) sc__law_worths.nd rfl (.inl rfl) (e_lst a_nil))
    (s_cons (s_for c (i_list (e_var (pv 0))) (g_name (i := 4) sc__law_worths.nd rfl (.inl rfl)) (s_one (s_app (pv 3) (e_callZ c G__law_forth hr (by rfl) (za_cons (z_var (pv 4)) (za_cons (z_var (pv 3)) (za_cons (z_var (pv 1)) (za_cons (z_var (pv 2)) za_nil))))))))
    (s_one (s_ret (e_mv (pv 3))))))
theorem ok_law (T : Tx K mg ca) (G__law_grid : Fo P w K mg base ca 1 "_law_grid" f__law_grid) (G__law_first : Fo P w K mg base ca 1 "_law_first" f__law_first) (G__law_slopes : Fo P w K mg base ca 5 "_law_slopes" f__law_slopes) (G_slopes : Fo P w K mg base ca 5 "slopes" f_slopes) (G__law_lists : Fo P w K mg base ca 4 "_law_lists" f__law_lists) (G__law_cell : Fo P w K mg base ca 1 "_law_cell" f__law_cell) (G__law_side : Fo P w K mg base ca 1 "_law_side" f__law_side) (G__law_grow : FoI P w K mg base ca 3 "_law_grow" 2 f__law_grow) (G__law_worths : Fo P w K mg base ca 4 "_law_worths" f__law_worths) {f : Addr} {fd : FuncData} (F : Fun K "law" "law" s_law f fd) : FnOk P w K mg base (L2.CX P w) 6 f fd ["_law_script"] (spP K ca f_law) :=
  fn_ok F sc_law fun cdv A outer s H E F0 R hr c => (s_cons (s_set (i := 1) sc_law.nd rfl (.inl rfl) (e_op op_add sAdd (e_z z_int) (e_op op_mod sMod (e_call c G__law_cell hr (by rfl) (a_cons (e_var (pv 0)) (a_cons (e_z z_int) a_nil))) (e_z z_int))))
    (s_cons (s_set (i := 2) sc_law.nd rfl (.inl rfl) (e_call c G__law_grid hr (by rfl) (a_cons (e_call c G__law_cell hr (by rfl) (a_cons (e_var (pv 0)) (a_cons (e_z z_int) a_nil))) a_nil)))
    (s_cons (s_setLc (i := 3) (own := [("_law_k", 4)]) c sc_law.nd rfl rfl (sw_true rfl rfl rfl (by decide +kernel)) (i_range1 (by rfl) T.range (a_cons (e_var (pv 1)) a_nil)) (blkOk_by (own := [("_law_k", 4)]) (N := ["_law_script", "_law_size", "_law_grid_here", "_law_box", "_law_k", "_law_nodes", "_law_heavy", "_law_node", "_law_cell_here", "_law_due", "_law_handed", "_law_sides", "_law_found", "_law_row"]) (sc := defScope s_law) (by decide +kernel)) (fun _ _ _ _ _ => (g_name (i := 4) sc_law.nd rfl (.inl rfl))) (fun _ _ _ _ _ => ts_nil) (fun _ _ _ _ _ c => (e_call c G__law_side hr (by rfl) (a_cons (e_call c G__law_cell hr (by rfl) (a_cons (e_var (pv 0)) (a_cons (e_z (z_op op_add sAdd z_int (z_op op_mulW sMul z_int (z_var (pv 4))))) a_nil))) (a_cons (e_call c G__law_cell hr (by rfl) (a_cons (e_var (pv 0)) (a_cons (e_z (z_op op_add sAdd z_int (z_op op_mulW sMul z_int (z_var (pv 4))))) a_nil))) a_nil)))))
    (s_cons (s_set (i := 5) sc_law.nd rfl (.inl rfl) (e_call c G__law_first hr (by rfl) (a_cons (e_call c G__law_cell hr (by rfl) (a_cons (e_var (pv 0)) (a_cons (e_z z_int) a_nil))) (a_cons (e_var (pv 1)) a_nil))))
    (s_cons (s_setLcB (i := 6) (own := [("_law_node", 7)]) c sc_law.nd rfl rfl (sw_true rfl rfl rfl (by decide +kernel)) (pv 5) (blkOk_by (own := [("_law_node", 7)]) (N := ["_law_script", "_law_size", "_law_grid_here", "_law_box", "_law_k", "_law_nodes", "_law_heavy", "_law_node", "_law_cell_here", "_law_due", "_law_handed", "_law_sides", "_law_found", "_law_row"]) (sc := defScope s_law) (by decide +kernel)) (fun _ _ _ _ _ => (g_name (i := 7) sc_law.nd rfl (.inl rfl))) (fun _ _ _ _ _ => ts_nil) (fun _ _ _ _ _ c => (e_z z_int)))
    (s_cons (s_for c (i_list (e_sliceL (e_var (pv 0)) (pe_some (e_z z_int)) (pe_some (e_z z_int)))) (g_name (i := 8) sc_law.nd rfl (.inl rfl)) (s_one (s_expr (e_callI c G__law_grow hr (by rfl) (pa_io (pv 5) (pa_io (pv 6) (pa_io0 (a_cons (e_var (pv 8)) (a_cons (e_z z_int) a_nil)))))))))
    (s_cons (s_set (i := 9) sc_law.nd rfl (.inl rfl) (e_call c G__law_slopes hr (by rfl) (a_cons (e_var (pv 5)) (a_cons (e_call c G__law_worths hr (by rfl) (a_cons (e_var (pv 5)) (a_cons (e_var (pv 3)) (a_cons (e_var (pv 2)) a_nil)))) (a_cons (e_var (pv 1)) (a_cons (e_var (pv 2)) a_nil))))))
    (s_cons (s_set (i := 10) sc_law.nd rfl (.inl rfl) (e_lstOf (by rfl) T.list_ (by decide +kernel) (a_cons (e_var (pv 5)) a_nil)))
    (s_cons (s_set (i := 11) sc_law.nd rfl (.inl rfl) (e_lstOf (by rfl) T.list_ (by decide +kernel) (a_cons (e_var (pv 3)) a_nil)))
    (s_cons (s_set (i := 12) sc_law.nd rfl (.inl rfl) (e_call c G_slopes hr (by rfl) (a_cons (e_var (pv 10)) (a_cons (e_var (pv 11)) (a_cons (e_var (pv 2)) a_nil)))))
    (s_cons (s_if (PW.pt (t_or (t_not (t_valE (e_callZ c G__law_lists hr (by rfl) (za_cons (z_var (pv 12)) (za_cons (z_var (pv 9)) za_nil))))) (t_or (t_cmpZ (op_neD hr.units) sNe (z_var (pv 10)) (z_var (pv 5))) (t_or1 (t_cmpZ (op_neD hr.units) sNe (z_var (pv 11)) (z_var (pv 3))))))) (s_one (s_ret (e_z z_bl))) s_nil)
    (s_cons (s_clearEach (i := 12) (j := 13) c sc_law.nd rfl (.inl rfl) (by decide) (pv 12) (pv 13))
    (s_cons (s_clear (pv 12))
    (s_one (s_ret (e_call c G__law_lists hr (by rfl) (a_cons (e_call c G_slopes hr (by rfl) (a_cons (e_var (pv 10)) (a_cons (e_var (pv 11)) (a_cons (e_var (pv 2)) a_nil)))) (a_cons (e_var (pv 9)) a_nil))))))))))))))))))
theorem ok_Power___init__ (T : Tx K mg ca) {f : Addr} {fd : FuncData} (F : Fun K "__init__" "Power.__init__" s_Power___init__ f fd) : FnOk P w K mg base (L2.CX P w) 1 f fd ["self", "one", "many"] (spI ca "Power" ["one", "many"]) :=
  init_ok F sc_Power___init__ rfl (by decide) (by intro n h; simp only [List.mem_cons, List.not_mem_nil, or_false] at h; rcases h with rfl | rfl <;> first | exact T.na_Power_one | exact T.na_Power_many) (by decide) fun cdv A outer s H E => (in_cons T.cl_Power (pv 0) (pv 1) (in_cons T.cl_Power (pv 0) (pv 2) in_nil))
theorem ok_Number___init__ (T : Tx K mg ca) {f : Addr} {fd : FuncData} (F : Fun K "__init__" "Number.__init__" s_Number___init__ f fd) : FnOk P w K mg base (L2.CX P w) 1 f fd ["self", "top", "bottom"] (spI ca "Number" ["top", "bottom"]) :=
  init_ok F sc_Number___init__ rfl (by decide) (by intro n h; simp only [List.mem_cons, List.not_mem_nil, or_false] at h; rcases h with rfl | rfl <;> first | exact T.na_Number_top | exact T.na_Number_bottom) (by decide) fun cdv A outer s H E => (in_cons T.cl_Number (pv 0) (pv 1) (in_cons T.cl_Number (pv 0) (pv 2) in_nil))
theorem ok_Unknown___init__ (T : Tx K mg ca) {f : Addr} {fd : FuncData} (F : Fun K "__init__" "Unknown.__init__" s_Unknown___init__ f fd) : FnOk P w K mg base (L2.CX P w) 1 f fd ["self", "place"] (spI ca "Unknown" ["place"]) :=
  init_ok F sc_Unknown___init__ rfl (by decide) (by intro n h; simp only [List.mem_cons, List.not_mem_nil, or_false] at h; subst h <;> first | exact T.na_Unknown_place) (by decide) fun cdv A outer s H E => (in_cons T.cl_Unknown (pv 0) (pv 1) in_nil)
theorem ok_Plus___init__ (T : Tx K mg ca) {f : Addr} {fd : FuncData} (F : Fun K "__init__" "Plus.__init__" s_Plus___init__ f fd) : FnOk P w K mg base (L2.CX P w) 1 f fd ["self", "one", "other"] (spI ca "Plus" ["one", "other"]) :=
  init_ok F sc_Plus___init__ rfl (by decide) (by intro n h; simp only [List.mem_cons, List.not_mem_nil, or_false] at h; rcases h with rfl | rfl <;> first | exact T.na_Plus_one | exact T.na_Plus_other) (by decide) fun cdv A outer s H E => (in_cons T.cl_Plus (pv 0) (pv 1) (in_cons T.cl_Plus (pv 0) (pv 2) in_nil))
theorem ok_Minus___init__ (T : Tx K mg ca) {f : Addr} {fd : FuncData} (F : Fun K "__init__" "Minus.__init__" s_Minus___init__ f fd) : FnOk P w K mg base (L2.CX P w) 1 f fd ["self", "one", "other"] (spI ca "Minus" ["one", "other"]) :=
  init_ok F sc_Minus___init__ rfl (by decide) (by intro n h; simp only [List.mem_cons, List.not_mem_nil, or_false] at h; rcases h with rfl | rfl <;> first | exact T.na_Minus_one | exact T.na_Minus_other) (by decide) fun cdv A outer s H E => (in_cons T.cl_Minus (pv 0) (pv 1) (in_cons T.cl_Minus (pv 0) (pv 2) in_nil))
theorem ok_Times___init__ (T : Tx K mg ca) {f : Addr} {fd : FuncData} (F : Fun K "__init__" "Times.__init__" s_Times___init__ f fd) : FnOk P w K mg base (L2.CX P w) 1 f fd ["self", "one", "other"] (spI ca "Times" ["one", "other"]) :=
  init_ok F sc_Times___init__ rfl (by decide) (by intro n h; simp only [List.mem_cons, List.not_mem_nil, or_false] at h; rcases h with rfl | rfl <;> first | exact T.na_Times_one | exact T.na_Times_other) (by decide) fun cdv A outer s H E => (in_cons T.cl_Times (pv 0) (pv 1) (in_cons T.cl_Times (pv 0) (pv 2) in_nil))
theorem repL_ints {K : PySem.W.Frag} {ca : Str → Addr} {F : Hp} : ∀ ns : List Int, RepL K ca F (ns.map D.int) (ns.map V.int)
  | [] => rfl
  | i :: r => ⟨.int i, r.map V.int, rfl, rfl, repL_ints r⟩
theorem cx_none {P : Program} {w : World} {H : Hp} {s : Shared} {e : Value} {s' : Shared} (h : L2.CX P w [] H s (fun _ _ _ => False) e s') : False := by
  obtain ⟨_, _, _, _, _, _, _, _, _, _, _, _, z⟩ := h
  exact z
def spL (K : PySem.W.Frag) : Sp := fun vs H Q _ => ∃ (a : Addr) (ns : List Int), vs = [.ref a] ∧ ns.length ≤ 63 ∧ SqL K H a (ns.map V.int) ∧ ∀ H', Q (.bl true) H'
theorem sp_law {K : PySem.W.Frag} {ca : Str → Addr} (hl : ∀ ns : List Int, ns.length ≤ 63 → f_law [.cst (ns.map D.int)] = .ok (.bl true)) (vs : List V) (H : Hp) (Q : VK) (E : XK) (h : spL K vs H Q E) : spP K ca f_law vs H Q E := by
  obtain ⟨a, ns, rfl, hn, hS, q⟩ := h
  refine ⟨H, [.cst (ns.map D.int)], Same.refl _, ⟨.ref a, [], rfl, ⟨a, _, rfl, hS, repL_ints ns⟩, rfl⟩, ?_⟩
  rw [hl ns hn]
  intro v F' H' f _ _ _ hv _ _ _
  cases (show v = .bl true from hv.1)
  exact q H'

set_option maxHeartbeats 0 in
theorem all_mk {l : PySem.W.OpenLaw} {w : World} {K : PySem.W.Frag} {h : Heap} {mg : Str → Option Value} {fa f0 f1 f2 f3 f4 f5 f6 f7 f8 f9 f10 f11 f12 f13 f14 f15 f16 f17 f18 f19 f20 f21 f22 f23 f24 f25 f26 f27 f28 f29 f30 f31 f32 f33 f34 f35 f36 f37 f38 f39 f40 f41 f42 fi0 fi1 fi2 fi3 fi4 fi5 a_Number a_Unknown a_Plus a_Minus a_Times a_Power : Addr} (X : K.In h) (G : h.Ns mainGlobals mg) (hfa : mg "law" = some (.ref fa))
    {od0 an0 : Option Addr} {sl0 : Array (Option Value)} {oc0 kV0 dc0 pm0 cd0 ct0 : Value} (a0 : PySem.W.nsIn K mainGlobals "_law_grid" = some (some (.ref f0))) (l0 : K.lookup f0 = some ⟨oc0, od0, .func (PySem.W.fnOf "_law_grid" "_law_grid" (defArgs s__law_grid) (defBody s__law_grid) (defScope s__law_grid) .none kV0 dc0 pm0 an0 cd0 ct0), sl0⟩) (c0 : PySem.W.codeIn K cd0 "_law_grid" = true) (k0 : PySem.W.keepIn K (.ref f0) = true)
    {od1 an1 : Option Addr} {sl1 : Array (Option Value)} {oc1 kV1 dc1 pm1 cd1 ct1 : Value} (a1 : PySem.W.nsIn K mainGlobals "_law_first" = some (some (.ref f1))) (l1 : K.lookup f1 = some ⟨oc1, od1, .func (PySem.W.fnOf "_law_first" "_law_first" (defArgs s__law_first) (defBody s__law_first) (defScope s__law_first) .none kV1 dc1 pm1 an1 cd1 ct1), sl1⟩) (c1 : PySem.W.codeIn K cd1 "_law_first" = true) (k1 : PySem.W.keepIn K (.ref f1) = true)
    {od2 an2 : Option Addr} {sl2 : Array (Option Value)} {oc2 kV2 dc2 pm2 cd2 ct2 : Value} (a2 : PySem.W.nsIn K mainGlobals "_law_plus" = some (some (.ref f2))) (l2 : K.lookup f2 = some ⟨oc2, od2, .func (PySem.W.fnOf "_law_plus" "_law_plus" (defArgs s__law_plus) (defBody s__law_plus) (defScope s__law_plus) .none kV2 dc2 pm2 an2 cd2 ct2), sl2⟩) (c2 : PySem.W.codeIn K cd2 "_law_plus" = true) (k2 : PySem.W.keepIn K (.ref f2) = true)
    {od3 an3 : Option Addr} {sl3 : Array (Option Value)} {oc3 kV3 dc3 pm3 cd3 ct3 : Value} (a3 : PySem.W.nsIn K mainGlobals "_law_product" = some (some (.ref f3))) (l3 : K.lookup f3 = some ⟨oc3, od3, .func (PySem.W.fnOf "_law_product" "_law_product" (defArgs s__law_product) (defBody s__law_product) (defScope s__law_product) .none kV3 dc3 pm3 an3 cd3 ct3), sl3⟩) (c3 : PySem.W.codeIn K cd3 "_law_product" = true) (k3 : PySem.W.keepIn K (.ref f3) = true)
    {od4 an4 : Option Addr} {sl4 : Array (Option Value)} {oc4 kV4 dc4 pm4 cd4 ct4 : Value} (a4 : PySem.W.nsIn K mainGlobals "_law_less" = some (some (.ref f4))) (l4 : K.lookup f4 = some ⟨oc4, od4, .func (PySem.W.fnOf "_law_less" "_law_less" (defArgs s__law_less) (defBody s__law_less) (defScope s__law_less) .none kV4 dc4 pm4 an4 cd4 ct4), sl4⟩) (c4 : PySem.W.codeIn K cd4 "_law_less" = true) (k4 : PySem.W.keepIn K (.ref f4) = true)
    {od5 an5 : Option Addr} {sl5 : Array (Option Value)} {oc5 kV5 dc5 pm5 cd5 ct5 : Value} (a5 : PySem.W.nsIn K mainGlobals "_law_often" = some (some (.ref f5))) (l5 : K.lookup f5 = some ⟨oc5, od5, .func (PySem.W.fnOf "_law_often" "_law_often" (defArgs s__law_often) (defBody s__law_often) (defScope s__law_often) .none kV5 dc5 pm5 an5 cd5 ct5), sl5⟩) (c5 : PySem.W.codeIn K cd5 "_law_often" = true) (k5 : PySem.W.keepIn K (.ref f5) = true)
    {od6 an6 : Option Addr} {sl6 : Array (Option Value)} {oc6 kV6 dc6 pm6 cd6 ct6 : Value} (a6 : PySem.W.nsIn K mainGlobals "_law_raised" = some (some (.ref f6))) (l6 : K.lookup f6 = some ⟨oc6, od6, .func (PySem.W.fnOf "_law_raised" "_law_raised" (defArgs s__law_raised) (defBody s__law_raised) (defScope s__law_raised) .none kV6 dc6 pm6 an6 cd6 ct6), sl6⟩) (c6 : PySem.W.codeIn K cd6 "_law_raised" = true) (k6 : PySem.W.keepIn K (.ref f6) = true)
    {od7 an7 : Option Addr} {sl7 : Array (Option Value)} {oc7 kV7 dc7 pm7 cd7 ct7 : Value} (a7 : PySem.W.nsIn K mainGlobals "_law_factor" = some (some (.ref f7))) (l7 : K.lookup f7 = some ⟨oc7, od7, .func (PySem.W.fnOf "_law_factor" "_law_factor" (defArgs s__law_factor) (defBody s__law_factor) (defScope s__law_factor) .none kV7 dc7 pm7 an7 cd7 ct7), sl7⟩) (c7 : PySem.W.codeIn K cd7 "_law_factor" = true) (k7 : PySem.W.keepIn K (.ref f7) = true)
    {od8 an8 : Option Addr} {sl8 : Array (Option Value)} {oc8 kV8 dc8 pm8 cd8 ct8 : Value} (a8 : PySem.W.nsIn K mainGlobals "_law_slope" = some (some (.ref f8))) (l8 : K.lookup f8 = some ⟨oc8, od8, .func (PySem.W.fnOf "_law_slope" "_law_slope" (defArgs s__law_slope) (defBody s__law_slope) (defScope s__law_slope) .none kV8 dc8 pm8 an8 cd8 ct8), sl8⟩) (c8 : PySem.W.codeIn K cd8 "_law_slope" = true) (k8 : PySem.W.keepIn K (.ref f8) = true)
    {od9 an9 : Option Addr} {sl9 : Array (Option Value)} {oc9 kV9 dc9 pm9 cd9 ct9 : Value} (a9 : PySem.W.nsIn K mainGlobals "_law_slopes" = some (some (.ref f9))) (l9 : K.lookup f9 = some ⟨oc9, od9, .func (PySem.W.fnOf "_law_slopes" "_law_slopes" (defArgs s__law_slopes) (defBody s__law_slopes) (defScope s__law_slopes) .none kV9 dc9 pm9 an9 cd9 ct9), sl9⟩) (c9 : PySem.W.codeIn K cd9 "_law_slopes" = true) (k9 : PySem.W.keepIn K (.ref f9) = true)
    {od10 an10 : Option Addr} {sl10 : Array (Option Value)} {oc10 kV10 dc10 pm10 cd10 ct10 : Value} (a10 : PySem.W.nsIn K mainGlobals "kind_of" = some (some (.ref f10))) (l10 : K.lookup f10 = some ⟨oc10, od10, .func (PySem.W.fnOf "kind_of" "kind_of" (defArgs s_kind_of) (defBody s_kind_of) (defScope s_kind_of) .none kV10 dc10 pm10 an10 cd10 ct10), sl10⟩) (c10 : PySem.W.codeIn K cd10 "kind_of" = true) (k10 : PySem.W.keepIn K (.ref f10) = true)
    {od11 an11 : Option Addr} {sl11 : Array (Option Value)} {oc11 kV11 dc11 pm11 cd11 ct11 : Value} (a11 : PySem.W.nsIn K mainGlobals "less" = some (some (.ref f11))) (l11 : K.lookup f11 = some ⟨oc11, od11, .func (PySem.W.fnOf "less" "less" (defArgs s_less) (defBody s_less) (defScope s_less) .none kV11 dc11 pm11 an11 cd11 ct11), sl11⟩) (c11 : PySem.W.codeIn K cd11 "less" = true) (k11 : PySem.W.keepIn K (.ref f11) = true)
    {od12 an12 : Option Addr} {sl12 : Array (Option Value)} {oc12 kV12 dc12 pm12 cd12 ct12 : Value} (a12 : PySem.W.nsIn K mainGlobals "span_of" = some (some (.ref f12))) (l12 : K.lookup f12 = some ⟨oc12, od12, .func (PySem.W.fnOf "span_of" "span_of" (defArgs s_span_of) (defBody s_span_of) (defScope s_span_of) .none kV12 dc12 pm12 an12 cd12 ct12), sl12⟩) (c12 : PySem.W.codeIn K cd12 "span_of" = true) (k12 : PySem.W.keepIn K (.ref f12) = true)
    {od13 an13 : Option Addr} {sl13 : Array (Option Value)} {oc13 kV13 dc13 pm13 cd13 ct13 : Value} (a13 : PySem.W.findIn K (.ref a_Number) "forth" = some (some (.ref f13))) (l13 : K.lookup f13 = some ⟨oc13, od13, .func (PySem.W.fnOf "forth" "Number.forth" (defArgs s_Number_forth) (defBody s_Number_forth) (defScope s_Number_forth) .none kV13 dc13 pm13 an13 cd13 ct13), sl13⟩) (c13 : PySem.W.codeIn K cd13 "Number.forth" = true) (k13 : PySem.W.keepIn K (.ref f13) = true)
    {od14 an14 : Option Addr} {sl14 : Array (Option Value)} {oc14 kV14 dc14 pm14 cd14 ct14 : Value} (a14 : PySem.W.findIn K (.ref a_Unknown) "forth" = some (some (.ref f14))) (l14 : K.lookup f14 = some ⟨oc14, od14, .func (PySem.W.fnOf "forth" "Unknown.forth" (defArgs s_Unknown_forth) (defBody s_Unknown_forth) (defScope s_Unknown_forth) .none kV14 dc14 pm14 an14 cd14 ct14), sl14⟩) (c14 : PySem.W.codeIn K cd14 "Unknown.forth" = true) (k14 : PySem.W.keepIn K (.ref f14) = true)
    {od15 an15 : Option Addr} {sl15 : Array (Option Value)} {oc15 kV15 dc15 pm15 cd15 ct15 : Value} (a15 : PySem.W.nsIn K mainGlobals "add_spans" = some (some (.ref f15))) (l15 : K.lookup f15 = some ⟨oc15, od15, .func (PySem.W.fnOf "add_spans" "add_spans" (defArgs s_add_spans) (defBody s_add_spans) (defScope s_add_spans) .none kV15 dc15 pm15 an15 cd15 ct15), sl15⟩) (c15 : PySem.W.codeIn K cd15 "add_spans" = true) (k15 : PySem.W.keepIn K (.ref f15) = true)
    {od16 an16 : Option Addr} {sl16 : Array (Option Value)} {oc16 kV16 dc16 pm16 cd16 ct16 : Value} (a16 : PySem.W.findIn K (.ref a_Plus) "forth" = some (some (.ref f16))) (l16 : K.lookup f16 = some ⟨oc16, od16, .func (PySem.W.fnOf "forth" "Plus.forth" (defArgs s_Plus_forth) (defBody s_Plus_forth) (defScope s_Plus_forth) .none kV16 dc16 pm16 an16 cd16 ct16), sl16⟩) (c16 : PySem.W.codeIn K cd16 "Plus.forth" = true) (k16 : PySem.W.keepIn K (.ref f16) = true)
    {od17 an17 : Option Addr} {sl17 : Array (Option Value)} {oc17 kV17 dc17 pm17 cd17 ct17 : Value} (a17 : PySem.W.nsIn K mainGlobals "take_spans" = some (some (.ref f17))) (l17 : K.lookup f17 = some ⟨oc17, od17, .func (PySem.W.fnOf "take_spans" "take_spans" (defArgs s_take_spans) (defBody s_take_spans) (defScope s_take_spans) .none kV17 dc17 pm17 an17 cd17 ct17), sl17⟩) (c17 : PySem.W.codeIn K cd17 "take_spans" = true) (k17 : PySem.W.keepIn K (.ref f17) = true)
    {od18 an18 : Option Addr} {sl18 : Array (Option Value)} {oc18 kV18 dc18 pm18 cd18 ct18 : Value} (a18 : PySem.W.findIn K (.ref a_Minus) "forth" = some (some (.ref f18))) (l18 : K.lookup f18 = some ⟨oc18, od18, .func (PySem.W.fnOf "forth" "Minus.forth" (defArgs s_Minus_forth) (defBody s_Minus_forth) (defScope s_Minus_forth) .none kV18 dc18 pm18 an18 cd18 ct18), sl18⟩) (c18 : PySem.W.codeIn K cd18 "Minus.forth" = true) (k18 : PySem.W.keepIn K (.ref f18) = true)
    {od19 an19 : Option Addr} {sl19 : Array (Option Value)} {oc19 kV19 dc19 pm19 cd19 ct19 : Value} (a19 : PySem.W.nsIn K mainGlobals "mul_spans" = some (some (.ref f19))) (l19 : K.lookup f19 = some ⟨oc19, od19, .func (PySem.W.fnOf "mul_spans" "mul_spans" (defArgs s_mul_spans) (defBody s_mul_spans) (defScope s_mul_spans) .none kV19 dc19 pm19 an19 cd19 ct19), sl19⟩) (c19 : PySem.W.codeIn K cd19 "mul_spans" = true) (k19 : PySem.W.keepIn K (.ref f19) = true)
    {od20 an20 : Option Addr} {sl20 : Array (Option Value)} {oc20 kV20 dc20 pm20 cd20 ct20 : Value} (a20 : PySem.W.findIn K (.ref a_Times) "forth" = some (some (.ref f20))) (l20 : K.lookup f20 = some ⟨oc20, od20, .func (PySem.W.fnOf "forth" "Times.forth" (defArgs s_Times_forth) (defBody s_Times_forth) (defScope s_Times_forth) .none kV20 dc20 pm20 an20 cd20 ct20), sl20⟩) (c20 : PySem.W.codeIn K cd20 "Times.forth" = true) (k20 : PySem.W.keepIn K (.ref f20) = true)
    {od21 an21 : Option Addr} {sl21 : Array (Option Value)} {oc21 kV21 dc21 pm21 cd21 ct21 : Value} (a21 : PySem.W.nsIn K mainGlobals "multiplied" = some (some (.ref f21))) (l21 : K.lookup f21 = some ⟨oc21, od21, .func (PySem.W.fnOf "multiplied" "multiplied" (defArgs s_multiplied) (defBody s_multiplied) (defScope s_multiplied) .none kV21 dc21 pm21 an21 cd21 ct21), sl21⟩) (c21 : PySem.W.codeIn K cd21 "multiplied" = true) (k21 : PySem.W.keepIn K (.ref f21) = true)
    {od22 an22 : Option Addr} {sl22 : Array (Option Value)} {oc22 kV22 dc22 pm22 cd22 ct22 : Value} (a22 : PySem.W.nsIn K mainGlobals "raise_span" = some (some (.ref f22))) (l22 : K.lookup f22 = some ⟨oc22, od22, .func (PySem.W.fnOf "raise_span" "raise_span" (defArgs s_raise_span) (defBody s_raise_span) (defScope s_raise_span) .none kV22 dc22 pm22 an22 cd22 ct22), sl22⟩) (c22 : PySem.W.codeIn K cd22 "raise_span" = true) (k22 : PySem.W.keepIn K (.ref f22) = true)
    {od23 an23 : Option Addr} {sl23 : Array (Option Value)} {oc23 kV23 dc23 pm23 cd23 ct23 : Value} (a23 : PySem.W.findIn K (.ref a_Power) "forth" = some (some (.ref f23))) (l23 : K.lookup f23 = some ⟨oc23, od23, .func (PySem.W.fnOf "forth" "Power.forth" (defArgs s_Power_forth) (defBody s_Power_forth) (defScope s_Power_forth) .none kV23 dc23 pm23 an23 cd23 ct23), sl23⟩) (c23 : PySem.W.codeIn K cd23 "Power.forth" = true) (k23 : PySem.W.keepIn K (.ref f23) = true)
    {od24 an24 : Option Addr} {sl24 : Array (Option Value)} {oc24 kV24 dc24 pm24 cd24 ct24 : Value} (a24 : PySem.W.nsIn K mainGlobals "worths" = some (some (.ref f24))) (l24 : K.lookup f24 = some ⟨oc24, od24, .func (PySem.W.fnOf "worths" "worths" (defArgs s_worths) (defBody s_worths) (defScope s_worths) .none kV24 dc24 pm24 an24 cd24 ct24), sl24⟩) (c24 : PySem.W.codeIn K cd24 "worths" = true) (k24 : PySem.W.keepIn K (.ref f24) = true)
    {od25 an25 : Option Addr} {sl25 : Array (Option Value)} {oc25 kV25 dc25 pm25 cd25 ct25 : Value} (a25 : PySem.W.nsIn K mainGlobals "flat" = some (some (.ref f25))) (l25 : K.lookup f25 = some ⟨oc25, od25, .func (PySem.W.fnOf "flat" "flat" (defArgs s_flat) (defBody s_flat) (defScope s_flat) .none kV25 dc25 pm25 an25 cd25 ct25), sl25⟩) (c25 : PySem.W.codeIn K cd25 "flat" = true) (k25 : PySem.W.keepIn K (.ref f25) = true)
    {od26 an26 : Option Addr} {sl26 : Array (Option Value)} {oc26 kV26 dc26 pm26 cd26 ct26 : Value} (a26 : PySem.W.nsIn K mainGlobals "scale_span" = some (some (.ref f26))) (l26 : K.lookup f26 = some ⟨oc26, od26, .func (PySem.W.fnOf "scale_span" "scale_span" (defArgs s_scale_span) (defBody s_scale_span) (defScope s_scale_span) .none kV26 dc26 pm26 an26 cd26 ct26), sl26⟩) (c26 : PySem.W.codeIn K cd26 "scale_span" = true) (k26 : PySem.W.keepIn K (.ref f26) = true)
    {od27 an27 : Option Addr} {sl27 : Array (Option Value)} {oc27 kV27 dc27 pm27 cd27 ct27 : Value} (a27 : PySem.W.nsIn K mainGlobals "rise" = some (some (.ref f27))) (l27 : K.lookup f27 = some ⟨oc27, od27, .func (PySem.W.fnOf "rise" "rise" (defArgs s_rise) (defBody s_rise) (defScope s_rise) .none kV27 dc27 pm27 an27 cd27 ct27), sl27⟩) (c27 : PySem.W.codeIn K cd27 "rise" = true) (k27 : PySem.W.keepIn K (.ref f27) = true)
    {od28 an28 : Option Addr} {sl28 : Array (Option Value)} {oc28 kV28 dc28 pm28 cd28 ct28 : Value} (a28 : PySem.W.nsIn K mainGlobals "slope_of" = some (some (.ref f28))) (l28 : K.lookup f28 = some ⟨oc28, od28, .func (PySem.W.fnOf "slope_of" "slope_of" (defArgs s_slope_of) (defBody s_slope_of) (defScope s_slope_of) .none kV28 dc28 pm28 an28 cd28 ct28), sl28⟩) (c28 : PySem.W.codeIn K cd28 "slope_of" = true) (k28 : PySem.W.keepIn K (.ref f28) = true)
    {od29 an29 : Option Addr} {sl29 : Array (Option Value)} {oc29 kV29 dc29 pm29 cd29 ct29 : Value} (a29 : PySem.W.nsIn K mainGlobals "slopes" = some (some (.ref f29))) (l29 : K.lookup f29 = some ⟨oc29, od29, .func (PySem.W.fnOf "slopes" "slopes" (defArgs s_slopes) (defBody s_slopes) (defScope s_slopes) .none kV29 dc29 pm29 an29 cd29 ct29), sl29⟩) (c29 : PySem.W.codeIn K cd29 "slopes" = true) (k29 : PySem.W.keepIn K (.ref f29) = true)
    {od30 an30 : Option Addr} {sl30 : Array (Option Value)} {oc30 kV30 dc30 pm30 cd30 ct30 : Value} (a30 : PySem.W.nsIn K mainGlobals "_law_whole" = some (some (.ref f30))) (l30 : K.lookup f30 = some ⟨oc30, od30, .func (PySem.W.fnOf "_law_whole" "_law_whole" (defArgs s__law_whole) (defBody s__law_whole) (defScope s__law_whole) .none kV30 dc30 pm30 an30 cd30 ct30), sl30⟩) (c30 : PySem.W.codeIn K cd30 "_law_whole" = true) (k30 : PySem.W.keepIn K (.ref f30) = true)
    {od31 an31 : Option Addr} {sl31 : Array (Option Value)} {oc31 kV31 dc31 pm31 cd31 ct31 : Value} (a31 : PySem.W.nsIn K mainGlobals "_law_span" = some (some (.ref f31))) (l31 : K.lookup f31 = some ⟨oc31, od31, .func (PySem.W.fnOf "_law_span" "_law_span" (defArgs s__law_span) (defBody s__law_span) (defScope s__law_span) .none kV31 dc31 pm31 an31 cd31 ct31), sl31⟩) (c31 : PySem.W.codeIn K cd31 "_law_span" = true) (k31 : PySem.W.keepIn K (.ref f31) = true)
    {od32 an32 : Option Addr} {sl32 : Array (Option Value)} {oc32 kV32 dc32 pm32 cd32 ct32 : Value} (a32 : PySem.W.nsIn K mainGlobals "_law_spans" = some (some (.ref f32))) (l32 : K.lookup f32 = some ⟨oc32, od32, .func (PySem.W.fnOf "_law_spans" "_law_spans" (defArgs s__law_spans) (defBody s__law_spans) (defScope s__law_spans) .none kV32 dc32 pm32 an32 cd32 ct32), sl32⟩) (c32 : PySem.W.codeIn K cd32 "_law_spans" = true) (k32 : PySem.W.keepIn K (.ref f32) = true)
    {od33 an33 : Option Addr} {sl33 : Array (Option Value)} {oc33 kV33 dc33 pm33 cd33 ct33 : Value} (a33 : PySem.W.nsIn K mainGlobals "_law_lists" = some (some (.ref f33))) (l33 : K.lookup f33 = some ⟨oc33, od33, .func (PySem.W.fnOf "_law_lists" "_law_lists" (defArgs s__law_lists) (defBody s__law_lists) (defScope s__law_lists) .none kV33 dc33 pm33 an33 cd33 ct33), sl33⟩) (c33 : PySem.W.codeIn K cd33 "_law_lists" = true) (k33 : PySem.W.keepIn K (.ref f33) = true)
    {od34 an34 : Option Addr} {sl34 : Array (Option Value)} {oc34 kV34 dc34 pm34 cd34 ct34 : Value} (a34 : PySem.W.nsIn K mainGlobals "_law_cell" = some (some (.ref f34))) (l34 : K.lookup f34 = some ⟨oc34, od34, .func (PySem.W.fnOf "_law_cell" "_law_cell" (defArgs s__law_cell) (defBody s__law_cell) (defScope s__law_cell) .none kV34 dc34 pm34 an34 cd34 ct34), sl34⟩) (c34 : PySem.W.codeIn K cd34 "_law_cell" = true) (k34 : PySem.W.keepIn K (.ref f34) = true)
    {od35 an35 : Option Addr} {sl35 : Array (Option Value)} {oc35 kV35 dc35 pm35 cd35 ct35 : Value} (a35 : PySem.W.nsIn K mainGlobals "_law_side" = some (some (.ref f35))) (l35 : K.lookup f35 = some ⟨oc35, od35, .func (PySem.W.fnOf "_law_side" "_law_side" (defArgs s__law_side) (defBody s__law_side) (defScope s__law_side) .none kV35 dc35 pm35 an35 cd35 ct35), sl35⟩) (c35 : PySem.W.codeIn K cd35 "_law_side" = true) (k35 : PySem.W.keepIn K (.ref f35) = true)
    {od36 an36 : Option Addr} {sl36 : Array (Option Value)} {oc36 kV36 dc36 pm36 cd36 ct36 : Value} (a36 : PySem.W.nsIn K mainGlobals "_law_lowest" = some (some (.ref f36))) (l36 : K.lookup f36 = some ⟨oc36, od36, .func (PySem.W.fnOf "_law_lowest" "_law_lowest" (defArgs s__law_lowest) (defBody s__law_lowest) (defScope s__law_lowest) .none kV36 dc36 pm36 an36 cd36 ct36), sl36⟩) (c36 : PySem.W.codeIn K cd36 "_law_lowest" = true) (k36 : PySem.W.keepIn K (.ref f36) = true)
    {od37 an37 : Option Addr} {sl37 : Array (Option Value)} {oc37 kV37 dc37 pm37 cd37 ct37 : Value} (a37 : PySem.W.nsIn K mainGlobals "_law_number" = some (some (.ref f37))) (l37 : K.lookup f37 = some ⟨oc37, od37, .func (PySem.W.fnOf "_law_number" "_law_number" (defArgs s__law_number) (defBody s__law_number) (defScope s__law_number) .none kV37 dc37 pm37 an37 cd37 ct37), sl37⟩) (c37 : PySem.W.codeIn K cd37 "_law_number" = true) (k37 : PySem.W.keepIn K (.ref f37) = true)
    {od38 an38 : Option Addr} {sl38 : Array (Option Value)} {oc38 kV38 dc38 pm38 cd38 ct38 : Value} (a38 : PySem.W.nsIn K mainGlobals "_law_put" = some (some (.ref f38))) (l38 : K.lookup f38 = some ⟨oc38, od38, .func (PySem.W.fnOf "_law_put" "_law_put" (defArgs s__law_put) (defBody s__law_put) (defScope s__law_put) .none kV38 dc38 pm38 an38 cd38 ct38), sl38⟩) (c38 : PySem.W.codeIn K cd38 "_law_put" = true) (k38 : PySem.W.keepIn K (.ref f38) = true)
    {od39 an39 : Option Addr} {sl39 : Array (Option Value)} {oc39 kV39 dc39 pm39 cd39 ct39 : Value} (a39 : PySem.W.nsIn K mainGlobals "_law_grow" = some (some (.ref f39))) (l39 : K.lookup f39 = some ⟨oc39, od39, .func (PySem.W.fnOf "_law_grow" "_law_grow" (defArgs s__law_grow) (defBody s__law_grow) (defScope s__law_grow) .none kV39 dc39 pm39 an39 cd39 ct39), sl39⟩) (c39 : PySem.W.codeIn K cd39 "_law_grow" = true) (k39 : PySem.W.keepIn K (.ref f39) = true)
    {od40 an40 : Option Addr} {sl40 : Array (Option Value)} {oc40 kV40 dc40 pm40 cd40 ct40 : Value} (a40 : PySem.W.nsIn K mainGlobals "_law_forth" = some (some (.ref f40))) (l40 : K.lookup f40 = some ⟨oc40, od40, .func (PySem.W.fnOf "_law_forth" "_law_forth" (defArgs s__law_forth) (defBody s__law_forth) (defScope s__law_forth) .none kV40 dc40 pm40 an40 cd40 ct40), sl40⟩) (c40 : PySem.W.codeIn K cd40 "_law_forth" = true) (k40 : PySem.W.keepIn K (.ref f40) = true)
    {od41 an41 : Option Addr} {sl41 : Array (Option Value)} {oc41 kV41 dc41 pm41 cd41 ct41 : Value} (a41 : PySem.W.nsIn K mainGlobals "_law_worths" = some (some (.ref f41))) (l41 : K.lookup f41 = some ⟨oc41, od41, .func (PySem.W.fnOf "_law_worths" "_law_worths" (defArgs s__law_worths) (defBody s__law_worths) (defScope s__law_worths) .none kV41 dc41 pm41 an41 cd41 ct41), sl41⟩) (c41 : PySem.W.codeIn K cd41 "_law_worths" = true) (k41 : PySem.W.keepIn K (.ref f41) = true)
    {od42 an42 : Option Addr} {sl42 : Array (Option Value)} {oc42 kV42 dc42 pm42 cd42 ct42 : Value} (a42 : PySem.W.nsIn K mainGlobals "law" = some (some (.ref f42))) (l42 : K.lookup f42 = some ⟨oc42, od42, .func (PySem.W.fnOf "law" "law" (defArgs s_law) (defBody s_law) (defScope s_law) .none kV42 dc42 pm42 an42 cd42 ct42), sl42⟩) (c42 : PySem.W.codeIn K cd42 "law" = true) (k42 : PySem.W.keepIn K (.ref f42) = true)
    (j13 : PySem.W.isFn K (.ref f13) = true)
    (j14 : PySem.W.isFn K (.ref f14) = true)
    (j16 : PySem.W.isFn K (.ref f16) = true)
    (j18 : PySem.W.isFn K (.ref f18) = true)
    (j20 : PySem.W.isFn K (.ref f20) = true)
    (j23 : PySem.W.isFn K (.ref f23) = true)
    {odi0 ani0 : Option Addr} {sli0 : Array (Option Value)} {oci0 kVi0 dci0 pmi0 cdi0 cti0 : Value} (ai0 : PySem.W.findIn K (.ref a_Power) "__init__" = some (some (.ref fi0))) (li0 : K.lookup fi0 = some ⟨oci0, odi0, .func (PySem.W.fnOf "__init__" "Power.__init__" (defArgs s_Power___init__) (defBody s_Power___init__) (defScope s_Power___init__) .none kVi0 dci0 pmi0 ani0 cdi0 cti0), sli0⟩) (ci0 : PySem.W.codeIn K cdi0 "Power.__init__" = true) (ki0 : PySem.W.keepIn K (.ref fi0) = true) (ji0 : PySem.W.isFn K (.ref fi0) = true) (mi0 : PySem.W.makesIn K a_Power = true) (kci0 : PySem.W.keepIn K (.ref a_Power) = true)
    {odi1 ani1 : Option Addr} {sli1 : Array (Option Value)} {oci1 kVi1 dci1 pmi1 cdi1 cti1 : Value} (ai1 : PySem.W.findIn K (.ref a_Number) "__init__" = some (some (.ref fi1))) (li1 : K.lookup fi1 = some ⟨oci1, odi1, .func (PySem.W.fnOf "__init__" "Number.__init__" (defArgs s_Number___init__) (defBody s_Number___init__) (defScope s_Number___init__) .none kVi1 dci1 pmi1 ani1 cdi1 cti1), sli1⟩) (ci1 : PySem.W.codeIn K cdi1 "Number.__init__" = true) (ki1 : PySem.W.keepIn K (.ref fi1) = true) (ji1 : PySem.W.isFn K (.ref fi1) = true) (mi1 : PySem.W.makesIn K a_Number = true) (kci1 : PySem.W.keepIn K (.ref a_Number) = true)
    {odi2 ani2 : Option Addr} {sli2 : Array (Option Value)} {oci2 kVi2 dci2 pmi2 cdi2 cti2 : Value} (ai2 : PySem.W.findIn K (.ref a_Unknown) "__init__" = some (some (.ref fi2))) (li2 : K.lookup fi2 = some ⟨oci2, odi2, .func (PySem.W.fnOf "__init__" "Unknown.__init__" (defArgs s_Unknown___init__) (defBody s_Unknown___init__) (defScope s_Unknown___init__) .none kVi2 dci2 pmi2 ani2 cdi2 cti2), sli2⟩) (ci2 : PySem.W.codeIn K cdi2 "Unknown.__init__" = true) (ki2 : PySem.W.keepIn K (.ref fi2) = true) (ji2 : PySem.W.isFn K (.ref fi2) = true) (mi2 : PySem.W.makesIn K a_Unknown = true) (kci2 : PySem.W.keepIn K (.ref a_Unknown) = true)
    {odi3 ani3 : Option Addr} {sli3 : Array (Option Value)} {oci3 kVi3 dci3 pmi3 cdi3 cti3 : Value} (ai3 : PySem.W.findIn K (.ref a_Plus) "__init__" = some (some (.ref fi3))) (li3 : K.lookup fi3 = some ⟨oci3, odi3, .func (PySem.W.fnOf "__init__" "Plus.__init__" (defArgs s_Plus___init__) (defBody s_Plus___init__) (defScope s_Plus___init__) .none kVi3 dci3 pmi3 ani3 cdi3 cti3), sli3⟩) (ci3 : PySem.W.codeIn K cdi3 "Plus.__init__" = true) (ki3 : PySem.W.keepIn K (.ref fi3) = true) (ji3 : PySem.W.isFn K (.ref fi3) = true) (mi3 : PySem.W.makesIn K a_Plus = true) (kci3 : PySem.W.keepIn K (.ref a_Plus) = true)
    {odi4 ani4 : Option Addr} {sli4 : Array (Option Value)} {oci4 kVi4 dci4 pmi4 cdi4 cti4 : Value} (ai4 : PySem.W.findIn K (.ref a_Minus) "__init__" = some (some (.ref fi4))) (li4 : K.lookup fi4 = some ⟨oci4, odi4, .func (PySem.W.fnOf "__init__" "Minus.__init__" (defArgs s_Minus___init__) (defBody s_Minus___init__) (defScope s_Minus___init__) .none kVi4 dci4 pmi4 ani4 cdi4 cti4), sli4⟩) (ci4 : PySem.W.codeIn K cdi4 "Minus.__init__" = true) (ki4 : PySem.W.keepIn K (.ref fi4) = true) (ji4 : PySem.W.isFn K (.ref fi4) = true) (mi4 : PySem.W.makesIn K a_Minus = true) (kci4 : PySem.W.keepIn K (.ref a_Minus) = true)
    {odi5 ani5 : Option Addr} {sli5 : Array (Option Value)} {oci5 kVi5 dci5 pmi5 cdi5 cti5 : Value} (ai5 : PySem.W.findIn K (.ref a_Times) "__init__" = some (some (.ref fi5))) (li5 : K.lookup fi5 = some ⟨oci5, odi5, .func (PySem.W.fnOf "__init__" "Times.__init__" (defArgs s_Times___init__) (defBody s_Times___init__) (defScope s_Times___init__) .none kVi5 dci5 pmi5 ani5 cdi5 cti5), sli5⟩) (ci5 : PySem.W.codeIn K cdi5 "Times.__init__" = true) (ki5 : PySem.W.keepIn K (.ref fi5) = true) (ji5 : PySem.W.isFn K (.ref fi5) = true) (mi5 : PySem.W.makesIn K a_Times = true) (kci5 : PySem.W.keepIn K (.ref a_Times) = true)
    (g_Number : PySem.W.nsIn K mainGlobals "Number" = some (some (.ref a_Number))) (pg_Number : PySem.W.plainGet K a_Number Str.empty = true) (hd_Number : PySem.W.hasDictIn K a_Number = true) (po_Number : PySem.W.plainOver K a_Number = true) (sa_Number : PySem.W.findIn K (.ref a_Number) "__setattr__" = some (some (.builtin "object.__setattr__")))
    (g_Unknown : PySem.W.nsIn K mainGlobals "Unknown" = some (some (.ref a_Unknown))) (pg_Unknown : PySem.W.plainGet K a_Unknown Str.empty = true) (hd_Unknown : PySem.W.hasDictIn K a_Unknown = true) (po_Unknown : PySem.W.plainOver K a_Unknown = true) (sa_Unknown : PySem.W.findIn K (.ref a_Unknown) "__setattr__" = some (some (.builtin "object.__setattr__")))
    (g_Plus : PySem.W.nsIn K mainGlobals "Plus" = some (some (.ref a_Plus))) (pg_Plus : PySem.W.plainGet K a_Plus Str.empty = true) (hd_Plus : PySem.W.hasDictIn K a_Plus = true) (po_Plus : PySem.W.plainOver K a_Plus = true) (sa_Plus : PySem.W.findIn K (.ref a_Plus) "__setattr__" = some (some (.builtin "object.__setattr__")))
    (g_Minus : PySem.W.nsIn K mainGlobals "Minus" = some (some (.ref a_Minus))) (pg_Minus : PySem.W.plainGet K a_Minus Str.empty = true) (hd_Minus : PySem.W.hasDictIn K a_Minus = true) (po_Minus : PySem.W.plainOver K a_Minus = true) (sa_Minus : PySem.W.findIn K (.ref a_Minus) "__setattr__" = some (some (.builtin "object.__setattr__")))
    (g_Times : PySem.W.nsIn K mainGlobals "Times" = some (some (.ref a_Times))) (pg_Times : PySem.W.plainGet K a_Times Str.empty = true) (hd_Times : PySem.W.hasDictIn K a_Times = true) (po_Times : PySem.W.plainOver K a_Times = true) (sa_Times : PySem.W.findIn K (.ref a_Times) "__setattr__" = some (some (.builtin "object.__setattr__")))
    (g_Power : PySem.W.nsIn K mainGlobals "Power" = some (some (.ref a_Power))) (pg_Power : PySem.W.plainGet K a_Power Str.empty = true) (hd_Power : PySem.W.hasDictIn K a_Power = true) (po_Power : PySem.W.plainOver K a_Power = true) (sa_Power : PySem.W.findIn K (.ref a_Power) "__setattr__" = some (some (.builtin "object.__setattr__")))
    (na_Minus_one : PySem.W.findIn K (.ref a_Minus) "one" = some none)
    (na_Minus_other : PySem.W.findIn K (.ref a_Minus) "other" = some none)
    (na_Number_bottom : PySem.W.findIn K (.ref a_Number) "bottom" = some none)
    (na_Number_top : PySem.W.findIn K (.ref a_Number) "top" = some none)
    (na_Plus_one : PySem.W.findIn K (.ref a_Plus) "one" = some none)
    (na_Plus_other : PySem.W.findIn K (.ref a_Plus) "other" = some none)
    (na_Power_many : PySem.W.findIn K (.ref a_Power) "many" = some none)
    (na_Power_one : PySem.W.findIn K (.ref a_Power) "one" = some none)
    (na_Times_one : PySem.W.findIn K (.ref a_Times) "one" = some none)
    (na_Times_other : PySem.W.findIn K (.ref a_Times) "other" = some none)
    (na_Unknown_place : PySem.W.findIn K (.ref a_Unknown) "place" = some none)
    (z_abs_ : PySem.W.nsIn K mainGlobals "abs" = some none)
    (z_bool_ : PySem.W.nsIn K mainGlobals "bool" = some none)
    (z_int_ : PySem.W.nsIn K mainGlobals "int" = some none)
    (z_isinstance : PySem.W.nsIn K mainGlobals "isinstance" = some none)
    (z_len_ : PySem.W.nsIn K mainGlobals "len" = some none)
    (z_list_ : PySem.W.nsIn K mainGlobals "list" = some none)
    (z_max_ : PySem.W.nsIn K mainGlobals "max" = some none)
    (z_min_ : PySem.W.nsIn K mainGlobals "min" = some none)
    (z_range : PySem.W.nsIn K mainGlobals "range" = some none)
    (z_reversed : PySem.W.nsIn K mainGlobals "reversed" = some none)
    (z_sorted : PySem.W.nsIn K mainGlobals "sorted" = some none)
    (z_tuple_ : PySem.W.nsIn K mainGlobals "tuple" = some none)
    {a_NoSpan : Addr} (g_NoSpan : PySem.W.nsIn K mainGlobals "NoSpan" = some (some (.ref a_NoSpan)))
    (p_NoSpan : PySem.W.keepIn K (.ref a_NoSpan) = true) (q_NoSpan : PySem.W.excIn K a_NoSpan [.type "ValueError", .type "Exception", .type "BaseException", .type "object"] "ValueError.__new__" = true) (r_NoSpan : PySem.W.subIn K (.ref a_NoSpan) (.type "BaseException") = some true) (t_NoSpan : PySem.W.typeIn K (.ref a_NoSpan) = some (.type "type"))
    : ∃ fd : FuncData, (∀ (s : Shared) (v : Value), BindsTo s fd ⟨[v], []⟩ [("_law_script", v)]) ∧ ∀ base : Heap, K.In base → base.Ns mainGlobals mg → FnOk l.prog w K mg base (L2.CX l.prog w) 6 fa fd ["_law_script"] (spL K) := by
  have e := hfa.symm.trans (PySem.W.mg_of X G a42)
  cases e
  have F0 := fun_mk (st := s__law_grid) l0 c0 k0
  have b0 := F0.binds (ps := ["_law_cell_here"]) fun _ _ _ _ _ _ us hl => match us, hl with | [_], _ => rfl
  have F1 := fun_mk (st := s__law_first) l1 c1 k1
  have b1 := F1.binds (ps := ["_law_cell_here", "_law_size"]) fun _ _ _ _ _ _ us hl => match us, hl with | [_, _], _ => rfl
  have F2 := fun_mk (st := s__law_plus) l2 c2 k2
  have b2 := F2.binds (ps := ["_law_a", "_law_b"]) fun _ _ _ _ _ _ us hl => match us, hl with | [_, _], _ => rfl
  have F3 := fun_mk (st := s__law_product) l3 c3 k3
  have b3 := F3.binds (ps := ["_law_a", "_law_b", "_law_grid_here"]) fun _ _ _ _ _ _ us hl => match us, hl with | [_, _, _], _ => rfl
  have F4 := fun_mk (st := s__law_less) l4 c4 k4
  have b4 := F4.binds (ps := ["_law_a", "_law_b"]) fun _ _ _ _ _ _ us hl => match us, hl with | [_, _], _ => rfl
  have F5 := fun_mk (st := s__law_often) l5 c5 k5
  have b5 := F5.binds (ps := ["_law_a", "_law_many"]) fun _ _ _ _ _ _ us hl => match us, hl with | [_, _], _ => rfl
  have F6 := fun_mk (st := s__law_raised) l6 c6 k6
  have b6 := F6.binds (ps := ["_law_a", "_law_many", "_law_grid_here"]) fun _ _ _ _ _ _ us hl => match us, hl with | [_, _, _], _ => rfl
  have F7 := fun_mk (st := s__law_factor) l7 c7 k7
  have b7 := F7.binds (ps := ["_law_a", "_law_many", "_law_grid_here"]) fun _ _ _ _ _ _ us hl => match us, hl with | [_, _, _], _ => rfl
  have F8 := fun_mk (st := s__law_slope) l8 c8 k8
  have b8 := F8.binds (ps := ["_law_node", "_law_spans_here", "_law_made", "_law_k", "_law_grid_here"]) fun _ _ _ _ _ _ us hl => match us, hl with | [_, _, _, _, _], _ => rfl
  have F9 := fun_mk (st := s__law_slopes) l9 c9 k9
  have b9 := F9.binds (ps := ["_law_nodes", "_law_spans_here", "_law_size", "_law_grid_here"]) fun _ _ _ _ _ _ us hl => match us, hl with | [_, _, _, _], _ => rfl
  have F10 := fun_mk (st := s_kind_of) l10 c10 k10
  have b10 := F10.binds (ps := ["node"]) fun _ _ _ _ _ _ us hl => match us, hl with | [_], _ => rfl
  have F11 := fun_mk (st := s_less) l11 c11 k11
  have b11 := F11.binds (ps := ["a", "b"]) fun _ _ _ _ _ _ us hl => match us, hl with | [_, _], _ => rfl
  have F12 := fun_mk (st := s_span_of) l12 c12 k12
  have b12 := F12.binds (ps := ["low", "high", "grid"]) fun _ _ _ _ _ _ us hl => match us, hl with | [_, _, _], _ => rfl
  have F13 := fun_mk (st := s_Number_forth) l13 c13 k13
  have b13 := F13.binds (ps := ["self", "spans", "box", "grid"]) fun _ _ _ _ _ _ us hl => match us, hl with | [_, _, _, _], _ => rfl
  have F14 := fun_mk (st := s_Unknown_forth) l14 c14 k14
  have b14 := F14.binds (ps := ["self", "spans", "box", "grid"]) fun _ _ _ _ _ _ us hl => match us, hl with | [_, _, _, _], _ => rfl
  have F15 := fun_mk (st := s_add_spans) l15 c15 k15
  have b15 := F15.binds (ps := ["a", "b"]) fun _ _ _ _ _ _ us hl => match us, hl with | [_, _], _ => rfl
  have F16 := fun_mk (st := s_Plus_forth) l16 c16 k16
  have b16 := F16.binds (ps := ["self", "spans", "box", "grid"]) fun _ _ _ _ _ _ us hl => match us, hl with | [_, _, _, _], _ => rfl
  have F17 := fun_mk (st := s_take_spans) l17 c17 k17
  have b17 := F17.binds (ps := ["a", "b"]) fun _ _ _ _ _ _ us hl => match us, hl with | [_, _], _ => rfl
  have F18 := fun_mk (st := s_Minus_forth) l18 c18 k18
  have b18 := F18.binds (ps := ["self", "spans", "box", "grid"]) fun _ _ _ _ _ _ us hl => match us, hl with | [_, _, _, _], _ => rfl
  have F19 := fun_mk (st := s_mul_spans) l19 c19 k19
  have b19 := F19.binds (ps := ["a", "b", "grid"]) fun _ _ _ _ _ _ us hl => match us, hl with | [_, _, _], _ => rfl
  have F20 := fun_mk (st := s_Times_forth) l20 c20 k20
  have b20 := F20.binds (ps := ["self", "spans", "box", "grid"]) fun _ _ _ _ _ _ us hl => match us, hl with | [_, _, _, _], _ => rfl
  have F21 := fun_mk (st := s_multiplied) l21 c21 k21
  have b21 := F21.binds (ps := ["a", "many"]) fun _ _ _ _ _ _ us hl => match us, hl with | [_, _], _ => rfl
  have F22 := fun_mk (st := s_raise_span) l22 c22 k22
  have b22 := F22.binds (ps := ["a", "many", "grid"]) fun _ _ _ _ _ _ us hl => match us, hl with | [_, _, _], _ => rfl
  have F23 := fun_mk (st := s_Power_forth) l23 c23 k23
  have b23 := F23.binds (ps := ["self", "spans", "box", "grid"]) fun _ _ _ _ _ _ us hl => match us, hl with | [_, _, _, _], _ => rfl
  have F24 := fun_mk (st := s_worths) l24 c24 k24
  have b24 := F24.binds (ps := ["nodes", "box", "grid"]) fun _ _ _ _ _ _ us hl => match us, hl with | [_, _, _], _ => rfl
  have F25 := fun_mk (st := s_flat) l25 c25 k25
  have b25 := F25.binds (ps := ["size"]) fun _ _ _ _ _ _ us hl => match us, hl with | [_], _ => rfl
  have F26 := fun_mk (st := s_scale_span) l26 c26 k26
  have b26 := F26.binds (ps := ["a", "many"]) fun _ _ _ _ _ _ us hl => match us, hl with | [_, _], _ => rfl
  have F27 := fun_mk (st := s_rise) l27 c27 k27
  have b27 := F27.binds (ps := ["span", "many", "grid"]) fun _ _ _ _ _ _ us hl => match us, hl with | [_, _, _], _ => rfl
  have F28 := fun_mk (st := s_slope_of) l28 c28 k28
  have b28 := F28.binds (ps := ["node", "spans", "made", "size", "grid"]) fun _ _ _ _ _ _ us hl => match us, hl with | [_, _, _, _, _], _ => rfl
  have F29 := fun_mk (st := s_slopes) l29 c29 k29
  have b29 := F29.binds (ps := ["nodes", "box", "grid"]) fun _ _ _ _ _ _ us hl => match us, hl with | [_, _, _], _ => rfl
  have F30 := fun_mk (st := s__law_whole) l30 c30 k30
  have b30 := F30.binds (ps := ["_law_found"]) fun _ _ _ _ _ _ us hl => match us, hl with | [_], _ => rfl
  have F31 := fun_mk (st := s__law_span) l31 c31 k31
  have b31 := F31.binds (ps := ["_law_found"]) fun _ _ _ _ _ _ us hl => match us, hl with | [_], _ => rfl
  have F32 := fun_mk (st := s__law_spans) l32 c32 k32
  have b32 := F32.binds (ps := ["_law_found", "_law_size"]) fun _ _ _ _ _ _ us hl => match us, hl with | [_, _], _ => rfl
  have F33 := fun_mk (st := s__law_lists) l33 c33 k33
  have b33 := F33.binds (ps := ["_law_found", "_law_due"]) fun _ _ _ _ _ _ us hl => match us, hl with | [_, _], _ => rfl
  have F34 := fun_mk (st := s__law_cell) l34 c34 k34
  have b34 := F34.binds (ps := ["_law_script", "_law_k"]) fun _ _ _ _ _ _ us hl => match us, hl with | [_, _], _ => rfl
  have F35 := fun_mk (st := s__law_side) l35 c35 k35
  have b35 := F35.binds (ps := ["_law_cell_here", "_law_other"]) fun _ _ _ _ _ _ us hl => match us, hl with | [_, _], _ => rfl
  have F36 := fun_mk (st := s__law_lowest) l36 c36 k36
  have b36 := F36.binds (ps := ["_law_top", "_law_bottom"]) fun _ _ _ _ _ _ us hl => match us, hl with | [_, _], _ => rfl
  have F37 := fun_mk (st := s__law_number) l37 c37 k37
  have b37 := F37.binds (ps := ["_law_cell_here"]) fun _ _ _ _ _ _ us hl => match us, hl with | [_], _ => rfl
  have F38 := fun_mk (st := s__law_put) l38 c38 k38
  have b38 := F38.binds (ps := ["_law_nodes", "_law_heavy", "_law_node", "_law_weight"]) fun _ _ _ _ _ _ us hl => match us, hl with | [_, _, _, _], _ => rfl
  have F39 := fun_mk (st := s__law_grow) l39 c39 k39
  have b39 := F39.binds (ps := ["_law_nodes", "_law_heavy", "_law_cell_here", "_law_most"]) fun _ _ _ _ _ _ us hl => match us, hl with | [_, _, _, _], _ => rfl
  have F40 := fun_mk (st := s__law_forth) l40 c40 k40
  have b40 := F40.binds (ps := ["_law_node", "_law_spans_here", "_law_box", "_law_grid_here"]) fun _ _ _ _ _ _ us hl => match us, hl with | [_, _, _, _], _ => rfl
  have F41 := fun_mk (st := s__law_worths) l41 c41 k41
  have b41 := F41.binds (ps := ["_law_nodes", "_law_box", "_law_grid_here"]) fun _ _ _ _ _ _ us hl => match us, hl with | [_, _, _], _ => rfl
  have F42 := fun_mk (st := s_law) l42 c42 k42
  have b42 := F42.binds (ps := ["_law_script"]) fun _ _ _ _ _ _ us hl => match us, hl with | [_], _ => rfl
  have Fi0 := fun_mk (st := s_Power___init__) li0 ci0 ki0
  have bi0 := Fi0.binds (ps := ["self", "one", "many"]) fun _ _ _ _ _ _ us hl => match us, hl with | [_, _, _], _ => rfl
  have Fi1 := fun_mk (st := s_Number___init__) li1 ci1 ki1
  have bi1 := Fi1.binds (ps := ["self", "top", "bottom"]) fun _ _ _ _ _ _ us hl => match us, hl with | [_, _, _], _ => rfl
  have Fi2 := fun_mk (st := s_Unknown___init__) li2 ci2 ki2
  have bi2 := Fi2.binds (ps := ["self", "place"]) fun _ _ _ _ _ _ us hl => match us, hl with | [_, _], _ => rfl
  have Fi3 := fun_mk (st := s_Plus___init__) li3 ci3 ki3
  have bi3 := Fi3.binds (ps := ["self", "one", "other"]) fun _ _ _ _ _ _ us hl => match us, hl with | [_, _, _], _ => rfl
  have Fi4 := fun_mk (st := s_Minus___init__) li4 ci4 ki4
  have bi4 := Fi4.binds (ps := ["self", "one", "other"]) fun _ _ _ _ _ _ us hl => match us, hl with | [_, _, _], _ => rfl
  have Fi5 := fun_mk (st := s_Times___init__) li5 ci5 ki5
  have bi5 := Fi5.binds (ps := ["self", "one", "other"]) fun _ _ _ _ _ _ us hl => match us, hl with | [_, _, _], _ => rfl
  have T : Tx K mg (caF a_NoSpan a_Number a_Unknown a_Plus a_Minus a_Times a_Power) := { abs_ := PySem.W.mg_none_of X G z_abs_, bool_ := PySem.W.mg_none_of X G z_bool_, int_ := PySem.W.mg_none_of X G z_int_, isinstance := PySem.W.mg_none_of X G z_isinstance, len_ := PySem.W.mg_none_of X G z_len_, list_ := PySem.W.mg_none_of X G z_list_, max_ := PySem.W.mg_none_of X G z_max_, min_ := PySem.W.mg_none_of X G z_min_, range := PySem.W.mg_none_of X G z_range, reversed := PySem.W.mg_none_of X G z_reversed, sorted := PySem.W.mg_none_of X G z_sorted, tuple_ := PySem.W.mg_none_of X G z_tuple_, cl_Number := ⟨pg_Number, hd_Number, po_Number, sa_Number⟩, cl_Unknown := ⟨pg_Unknown, hd_Unknown, po_Unknown, sa_Unknown⟩, cl_Plus := ⟨pg_Plus, hd_Plus, po_Plus, sa_Plus⟩, cl_Minus := ⟨pg_Minus, hd_Minus, po_Minus, sa_Minus⟩, cl_Times := ⟨pg_Times, hd_Times, po_Times, sa_Times⟩, cl_Power := ⟨pg_Power, hd_Power, po_Power, sa_Power⟩, na_Minus_one := na_Minus_one, na_Minus_other := na_Minus_other, na_Number_bottom := na_Number_bottom, na_Number_top := na_Number_top, na_Plus_one := na_Plus_one, na_Plus_other := na_Plus_other, na_Power_many := na_Power_many, na_Power_one := na_Power_one, na_Times_one := na_Times_one, na_Times_other := na_Times_other, na_Unknown_place := na_Unknown_place, x_NoSpan := ⟨PySem.W.mg_of X G g_NoSpan, p_NoSpan, q_NoSpan, r_NoSpan, t_NoSpan⟩ }
  refine ⟨PySem.W.fnOf "law" "law" (defArgs s_law) (defBody s_law) (defScope s_law) .none kV42 dc42 pm42 an42 cd42 ct42, fun s v => .of_eq rfl, fun base _ _ => ?_⟩
  have G__law_grid : Fo l.prog w K mg base (caF a_NoSpan a_Number a_Unknown a_Plus a_Minus a_Times a_Power) 1 "_law_grid" f__law_grid := fo_of F0 (PySem.W.mg_of X G a0) b0 (ok__law_grid T  F0)
  have G__law_first : Fo l.prog w K mg base (caF a_NoSpan a_Number a_Unknown a_Plus a_Minus a_Times a_Power) 1 "_law_first" f__law_first := fo_of F1 (PySem.W.mg_of X G a1) b1 (ok__law_first T  F1)
  have G__law_plus : Fo l.prog w K mg base (caF a_NoSpan a_Number a_Unknown a_Plus a_Minus a_Times a_Power) 1 "_law_plus" f__law_plus := fo_of F2 (PySem.W.mg_of X G a2) b2 (ok__law_plus T  F2)
  have G__law_product : Fo l.prog w K mg base (caF a_NoSpan a_Number a_Unknown a_Plus a_Minus a_Times a_Power) 1 "_law_product" f__law_product := fo_of F3 (PySem.W.mg_of X G a3) b3 (ok__law_product T  F3)
  have G__law_less : Fo l.prog w K mg base (caF a_NoSpan a_Number a_Unknown a_Plus a_Minus a_Times a_Power) 1 "_law_less" f__law_less := fo_of F4 (PySem.W.mg_of X G a4) b4 (ok__law_less T  F4)
  have G__law_often : Fo l.prog w K mg base (caF a_NoSpan a_Number a_Unknown a_Plus a_Minus a_Times a_Power) 1 "_law_often" f__law_often := fo_of F5 (PySem.W.mg_of X G a5) b5 (ok__law_often T  F5)
  have G__law_raised : Fo l.prog w K mg base (caF a_NoSpan a_Number a_Unknown a_Plus a_Minus a_Times a_Power) 2 "_law_raised" f__law_raised := fo_of F6 (PySem.W.mg_of X G a6) b6 (ok__law_raised T G__law_often F6)
  have G__law_factor : Fo l.prog w K mg base (caF a_NoSpan a_Number a_Unknown a_Plus a_Minus a_Times a_Power) 3 "_law_factor" f__law_factor := fo_of F7 (PySem.W.mg_of X G a7) b7 (ok__law_factor T G__law_raised F7)
  have G__law_slope : Fo l.prog w K mg base (caF a_NoSpan a_Number a_Unknown a_Plus a_Minus a_Times a_Power) 4 "_law_slope" f__law_slope := fo_of F8 (PySem.W.mg_of X G a8) b8 (ok__law_slope T G__law_plus G__law_product G__law_less G__law_factor F8)
  have G__law_slopes : Fo l.prog w K mg base (caF a_NoSpan a_Number a_Unknown a_Plus a_Minus a_Times a_Power) 5 "_law_slopes" f__law_slopes := fo_of F9 (PySem.W.mg_of X G a9) b9 (ok__law_slopes T G__law_slope F9)
  have M_Power : MkO l.prog w K mg base (caF a_NoSpan a_Number a_Unknown a_Plus a_Minus a_Times a_Power) "Power" ["one", "many"] := ⟨_, _, _, ⟨mi0, ai0, ji0, kci0⟩, PySem.W.mg_of X G g_Power, bi0, ok_Power___init__ T Fi0⟩
  have M_Number : MkO l.prog w K mg base (caF a_NoSpan a_Number a_Unknown a_Plus a_Minus a_Times a_Power) "Number" ["top", "bottom"] := ⟨_, _, _, ⟨mi1, ai1, ji1, kci1⟩, PySem.W.mg_of X G g_Number, bi1, ok_Number___init__ T Fi1⟩
  have M_Unknown : MkO l.prog w K mg base (caF a_NoSpan a_Number a_Unknown a_Plus a_Minus a_Times a_Power) "Unknown" ["place"] := ⟨_, _, _, ⟨mi2, ai2, ji2, kci2⟩, PySem.W.mg_of X G g_Unknown, bi2, ok_Unknown___init__ T Fi2⟩
  have M_Plus : MkO l.prog w K mg base (caF a_NoSpan a_Number a_Unknown a_Plus a_Minus a_Times a_Power) "Plus" ["one", "other"] := ⟨_, _, _, ⟨mi3, ai3, ji3, kci3⟩, PySem.W.mg_of X G g_Plus, bi3, ok_Plus___init__ T Fi3⟩
  have M_Minus : MkO l.prog w K mg base (caF a_NoSpan a_Number a_Unknown a_Plus a_Minus a_Times a_Power) "Minus" ["one", "other"] := ⟨_, _, _, ⟨mi4, ai4, ji4, kci4⟩, PySem.W.mg_of X G g_Minus, bi4, ok_Minus___init__ T Fi4⟩
  have M_Times : MkO l.prog w K mg base (caF a_NoSpan a_Number a_Unknown a_Plus a_Minus a_Times a_Power) "Times" ["one", "other"] := ⟨_, _, _, ⟨mi5, ai5, ji5, kci5⟩, PySem.W.mg_of X G g_Times, bi5, ok_Times___init__ T Fi5⟩
  have G_kind_of : Fo l.prog w K mg base (caF a_NoSpan a_Number a_Unknown a_Plus a_Minus a_Times a_Power) 3 "kind_of" f_kind_of := fo_of F10 (PySem.W.mg_of X G a10) b10 (ok_kind_of T M_Power M_Number M_Unknown M_Plus M_Minus M_Times F10)
  have G_less : Fo l.prog w K mg base (caF a_NoSpan a_Number a_Unknown a_Plus a_Minus a_Times a_Power) 1 "less" f_less := fo_of F11 (PySem.W.mg_of X G a11) b11 (ok_less T  F11)
  have G_span_of : Fo l.prog w K mg base (caF a_NoSpan a_Number a_Unknown a_Plus a_Minus a_Times a_Power) 2 "span_of" f_span_of := fo_of F12 (PySem.W.mg_of X G a12) b12 (ok_span_of T G_less F12)
  have O_Number_forth : MFo l.prog w K mg base (caF a_NoSpan a_Number a_Unknown a_Plus a_Minus a_Times a_Power) 3 "Number" "forth" f_Number_forth := ⟨⟨_, _, _, _, Nat.le_refl _, ⟨a13, j13, k13⟩, b13, ok_Number_forth T G_span_of F13⟩, T.cl_Number⟩
  have O_Unknown_forth : MFo l.prog w K mg base (caF a_NoSpan a_Number a_Unknown a_Plus a_Minus a_Times a_Power) 1 "Unknown" "forth" f_Unknown_forth := ⟨⟨_, _, _, _, Nat.le_refl _, ⟨a14, j14, k14⟩, b14, ok_Unknown_forth T  F14⟩, T.cl_Unknown⟩
  have G_add_spans : Fo l.prog w K mg base (caF a_NoSpan a_Number a_Unknown a_Plus a_Minus a_Times a_Power) 1 "add_spans" f_add_spans := fo_of F15 (PySem.W.mg_of X G a15) b15 (ok_add_spans T  F15)
  have O_Plus_forth : MFo l.prog w K mg base (caF a_NoSpan a_Number a_Unknown a_Plus a_Minus a_Times a_Power) 2 "Plus" "forth" f_Plus_forth := ⟨⟨_, _, _, _, Nat.le_refl _, ⟨a16, j16, k16⟩, b16, ok_Plus_forth T G_add_spans F16⟩, T.cl_Plus⟩
  have G_take_spans : Fo l.prog w K mg base (caF a_NoSpan a_Number a_Unknown a_Plus a_Minus a_Times a_Power) 1 "take_spans" f_take_spans := fo_of F17 (PySem.W.mg_of X G a17) b17 (ok_take_spans T  F17)
  have O_Minus_forth : MFo l.prog w K mg base (caF a_NoSpan a_Number a_Unknown a_Plus a_Minus a_Times a_Power) 2 "Minus" "forth" f_Minus_forth := ⟨⟨_, _, _, _, Nat.le_refl _, ⟨a18, j18, k18⟩, b18, ok_Minus_forth T G_take_spans F18⟩, T.cl_Minus⟩
  have G_mul_spans : Fo l.prog w K mg base (caF a_NoSpan a_Number a_Unknown a_Plus a_Minus a_Times a_Power) 1 "mul_spans" f_mul_spans := fo_of F19 (PySem.W.mg_of X G a19) b19 (ok_mul_spans T  F19)
  have O_Times_forth : MFo l.prog w K mg base (caF a_NoSpan a_Number a_Unknown a_Plus a_Minus a_Times a_Power) 2 "Times" "forth" f_Times_forth := ⟨⟨_, _, _, _, Nat.le_refl _, ⟨a20, j20, k20⟩, b20, ok_Times_forth T G_mul_spans F20⟩, T.cl_Times⟩
  have G_multiplied : Fo l.prog w K mg base (caF a_NoSpan a_Number a_Unknown a_Plus a_Minus a_Times a_Power) 1 "multiplied" f_multiplied := fo_of F21 (PySem.W.mg_of X G a21) b21 (ok_multiplied T  F21)
  have G_raise_span : Fo l.prog w K mg base (caF a_NoSpan a_Number a_Unknown a_Plus a_Minus a_Times a_Power) 2 "raise_span" f_raise_span := fo_of F22 (PySem.W.mg_of X G a22) b22 (ok_raise_span T G_multiplied F22)
  have O_Power_forth : MFo l.prog w K mg base (caF a_NoSpan a_Number a_Unknown a_Plus a_Minus a_Times a_Power) 3 "Power" "forth" f_Power_forth := ⟨⟨_, _, _, _, Nat.le_refl _, ⟨a23, j23, k23⟩, b23, ok_Power_forth T G_raise_span F23⟩, T.cl_Power⟩
  have G_worths : Fo l.prog w K mg base (caF a_NoSpan a_Number a_Unknown a_Plus a_Minus a_Times a_Power) 4 "worths" f_worths := fo_of F24 (PySem.W.mg_of X G a24) b24 (ok_worths T G_kind_of (⟨O_Number_forth.mono (by decide), O_Unknown_forth.mono (by decide), O_Plus_forth.mono (by decide), O_Minus_forth.mono (by decide), O_Times_forth.mono (by decide), O_Power_forth.mono (by decide), trivial⟩) F24)
  have G_flat : Fo l.prog w K mg base (caF a_NoSpan a_Number a_Unknown a_Plus a_Minus a_Times a_Power) 1 "flat" f_flat := fo_of F25 (PySem.W.mg_of X G a25) b25 (ok_flat T  F25)
  have G_scale_span : Fo l.prog w K mg base (caF a_NoSpan a_Number a_Unknown a_Plus a_Minus a_Times a_Power) 1 "scale_span" f_scale_span := fo_of F26 (PySem.W.mg_of X G a26) b26 (ok_scale_span T  F26)
  have G_rise : Fo l.prog w K mg base (caF a_NoSpan a_Number a_Unknown a_Plus a_Minus a_Times a_Power) 3 "rise" f_rise := fo_of F27 (PySem.W.mg_of X G a27) b27 (ok_rise T G_scale_span G_raise_span F27)
  have G_slope_of : Fo l.prog w K mg base (caF a_NoSpan a_Number a_Unknown a_Plus a_Minus a_Times a_Power) 4 "slope_of" f_slope_of := fo_of F28 (PySem.W.mg_of X G a28) b28 (ok_slope_of T G_flat G_rise G_mul_spans G_add_spans G_take_spans F28)
  have G_slopes : Fo l.prog w K mg base (caF a_NoSpan a_Number a_Unknown a_Plus a_Minus a_Times a_Power) 5 "slopes" f_slopes := fo_of F29 (PySem.W.mg_of X G a29) b29 (ok_slopes T G_worths G_slope_of F29)
  have G__law_whole : Fo l.prog w K mg base (caF a_NoSpan a_Number a_Unknown a_Plus a_Minus a_Times a_Power) 1 "_law_whole" f__law_whole := fo_of F30 (PySem.W.mg_of X G a30) b30 (ok__law_whole T  F30)
  have G__law_span : Fo l.prog w K mg base (caF a_NoSpan a_Number a_Unknown a_Plus a_Minus a_Times a_Power) 2 "_law_span" f__law_span := fo_of F31 (PySem.W.mg_of X G a31) b31 (ok__law_span T G__law_whole F31)
  have G__law_spans : Fo l.prog w K mg base (caF a_NoSpan a_Number a_Unknown a_Plus a_Minus a_Times a_Power) 3 "_law_spans" f__law_spans := fo_of F32 (PySem.W.mg_of X G a32) b32 (ok__law_spans T G__law_span F32)
  have G__law_lists : Fo l.prog w K mg base (caF a_NoSpan a_Number a_Unknown a_Plus a_Minus a_Times a_Power) 4 "_law_lists" f__law_lists := fo_of F33 (PySem.W.mg_of X G a33) b33 (ok__law_lists T G__law_spans F33)
  have G__law_cell : Fo l.prog w K mg base (caF a_NoSpan a_Number a_Unknown a_Plus a_Minus a_Times a_Power) 1 "_law_cell" f__law_cell := fo_of F34 (PySem.W.mg_of X G a34) b34 (ok__law_cell T  F34)
  have G__law_side : Fo l.prog w K mg base (caF a_NoSpan a_Number a_Unknown a_Plus a_Minus a_Times a_Power) 1 "_law_side" f__law_side := fo_of F35 (PySem.W.mg_of X G a35) b35 (ok__law_side T  F35)
  have G__law_lowest : Fo l.prog w K mg base (caF a_NoSpan a_Number a_Unknown a_Plus a_Minus a_Times a_Power) 1 "_law_lowest" f__law_lowest := fo_of F36 (PySem.W.mg_of X G a36) b36 (ok__law_lowest T  F36)
  have G__law_number : Fo l.prog w K mg base (caF a_NoSpan a_Number a_Unknown a_Plus a_Minus a_Times a_Power) 2 "_law_number" f__law_number := fo_of F37 (PySem.W.mg_of X G a37) b37 (ok__law_number T G__law_lowest F37)
  have G__law_put : FoI l.prog w K mg base (caF a_NoSpan a_Number a_Unknown a_Plus a_Minus a_Times a_Power) 1 "_law_put" 2 f__law_put := foI_of F38 (PySem.W.mg_of X G a38) b38 (ok__law_put T  F38)
  have G__law_grow : FoI l.prog w K mg base (caF a_NoSpan a_Number a_Unknown a_Plus a_Minus a_Times a_Power) 3 "_law_grow" 2 f__law_grow := foI_of F39 (PySem.W.mg_of X G a39) b39 (ok__law_grow T G__law_number G__law_put F39)
  have G__law_forth : Fo l.prog w K mg base (caF a_NoSpan a_Number a_Unknown a_Plus a_Minus a_Times a_Power) 3 "_law_forth" f__law_forth := fo_of F40 (PySem.W.mg_of X G a40) b40 (ok__law_forth T G__law_product G__law_raised G__law_plus G__law_less F40)
  have G__law_worths : Fo l.prog w K mg base (caF a_NoSpan a_Number a_Unknown a_Plus a_Minus a_Times a_Power) 4 "_law_worths" f__law_worths := fo_of F41 (PySem.W.mg_of X G a41) b41 (ok__law_worths T G__law_forth F41)
  exact (ok_law T G__law_grid G__law_first G__law_slopes G_slopes G__law_lists G__law_cell G__law_side G__law_grow G__law_worths F42).imp fun vs H Q E hs => sp_law law_true vs H Q E hs
end
end Lw
open PySem PySem.W PyProof.Rows
set_option maxHeartbeats 0 in
theorem PySem.Challenge.cw_boxnarrow_k41_slopes_of_kinds_holds : PySem.Challenge.rw_boxnarrow_k41_slopes_of_kinds.Holds := by
  w_on; o_law; k_head; (case hw => w_witness2)
  k_fill
  refine L2.walk_of (l := PySem.Challenge.rw_boxnarrow_k41_slopes_of_kinds) (n := 63) (k := 6) (x := "_law_script") (CX := fun w => L2.CX PySem.Challenge.rw_boxnarrow_k41_slopes_of_kinds.prog w) (sp := fun w => Lw.spL _) rfl (by decide) rfl ⟨rfl, by decide, by decide⟩ (fun w h Y => PySem.W.kIn_of Y) ?F (fun _ H a ns hl _ hS => ⟨a, ns, rfl, hl, hS, fun _ => rfl⟩) (fun _ _ _ _ _ h => Lw.cx_none h)
  case F =>
    intro w mg fa h KX G hmg
    refine' Lw.all_mk KX G hmg ?a0 ?l0 ?c0 ?k0 ?a1 ?l1 ?c1 ?k1 ?a2 ?l2 ?c2 ?k2 ?a3 ?l3 ?c3 ?k3 ?a4 ?l4 ?c4 ?k4 ?a5 ?l5 ?c5 ?k5 ?a6 ?l6 ?c6 ?k6 ?a7 ?l7 ?c7 ?k7 ?a8 ?l8 ?c8 ?k8 ?a9 ?l9 ?c9 ?k9 ?a10 ?l10 ?c10 ?k10 ?a11 ?l11 ?c11 ?k11 ?a12 ?l12 ?c12 ?k12 ?a13 ?l13 ?c13 ?k13 ?a14 ?l14 ?c14 ?k14 ?a15 ?l15 ?c15 ?k15 ?a16 ?l16 ?c16 ?k16 ?a17 ?l17 ?c17 ?k17 ?a18 ?l18 ?c18 ?k18 ?a19 ?l19 ?c19 ?k19 ?a20 ?l20 ?c20 ?k20 ?a21 ?l21 ?c21 ?k21 ?a22 ?l22 ?c22 ?k22 ?a23 ?l23 ?c23 ?k23 ?a24 ?l24 ?c24 ?k24 ?a25 ?l25 ?c25 ?k25 ?a26 ?l26 ?c26 ?k26 ?a27 ?l27 ?c27 ?k27 ?a28 ?l28 ?c28 ?k28 ?a29 ?l29 ?c29 ?k29 ?a30 ?l30 ?c30 ?k30 ?a31 ?l31 ?c31 ?k31 ?a32 ?l32 ?c32 ?k32 ?a33 ?l33 ?c33 ?k33 ?a34 ?l34 ?c34 ?k34 ?a35 ?l35 ?c35 ?k35 ?a36 ?l36 ?c36 ?k36 ?a37 ?l37 ?c37 ?k37 ?a38 ?l38 ?c38 ?k38 ?a39 ?l39 ?c39 ?k39 ?a40 ?l40 ?c40 ?k40 ?a41 ?l41 ?c41 ?k41 ?a42 ?l42 ?c42 ?k42 ?j13 ?j14 ?j16 ?j18 ?j20 ?j23 ?ai0 ?li0 ?ci0 ?ki0 ?ji0 ?mi0 ?kci0 ?ai1 ?li1 ?ci1 ?ki1 ?ji1 ?mi1 ?kci1 ?ai2 ?li2 ?ci2 ?ki2 ?ji2 ?mi2 ?kci2 ?ai3 ?li3 ?ci3 ?ki3 ?ji3 ?mi3 ?kci3 ?ai4 ?li4 ?ci4 ?ki4 ?ji4 ?mi4 ?kci4 ?ai5 ?li5 ?ci5 ?ki5 ?ji5 ?mi5 ?kci5 ?g_Number ?pg_Number ?hd_Number ?po_Number ?sa_Number ?g_Unknown ?pg_Unknown ?hd_Unknown ?po_Unknown ?sa_Unknown ?g_Plus ?pg_Plus ?hd_Plus ?po_Plus ?sa_Plus ?g_Minus ?pg_Minus ?hd_Minus ?po_Minus ?sa_Minus ?g_Times ?pg_Times ?hd_Times ?po_Times ?sa_Times ?g_Power ?pg_Power ?hd_Power ?po_Power ?sa_Power ?na_Minus_one ?na_Minus_other ?na_Number_bottom ?na_Number_top ?na_Plus_one ?na_Plus_other ?na_Power_many ?na_Power_one ?na_Times_one ?na_Times_other ?na_Unknown_place ?z_abs_ ?z_bool_ ?z_int_ ?z_isinstance ?z_len_ ?z_list_ ?z_max_ ?z_min_ ?z_range ?z_reversed ?z_sorted ?z_tuple_ ?g_NoSpan ?p_NoSpan ?q_NoSpan ?r_NoSpan ?t_NoSpan
    (case g_Number => k_is); (case g_Unknown => k_is); (case g_Plus => k_is); (case g_Minus => k_is); (case g_Times => k_is); (case g_Power => k_is); (case g_NoSpan => k_is); (case a0 => k_is); (case l0 => k_is); (case c0 => k_is); (case k0 => k_is); (case a1 => k_is); (case l1 => k_is); (case c1 => k_is); (case k1 => k_is); (case a2 => k_is); (case l2 => k_is); (case c2 => k_is); (case k2 => k_is); (case a3 => k_is); (case l3 => k_is); (case c3 => k_is); (case k3 => k_is); (case a4 => k_is); (case l4 => k_is); (case c4 => k_is); (case k4 => k_is); (case a5 => k_is); (case l5 => k_is); (case c5 => k_is); (case k5 => k_is); (case a6 => k_is); (case l6 => k_is); (case c6 => k_is); (case k6 => k_is); (case a7 => k_is); (case l7 => k_is); (case c7 => k_is); (case k7 => k_is); (case a8 => k_is); (case l8 => k_is); (case c8 => k_is); (case k8 => k_is); (case a9 => k_is); (case l9 => k_is); (case c9 => k_is); (case k9 => k_is); (case a10 => k_is); (case l10 => k_is); (case c10 => k_is); (case k10 => k_is); (case a11 => k_is); (case l11 => k_is); (case c11 => k_is); (case k11 => k_is); (case a12 => k_is); (case l12 => k_is); (case c12 => k_is); (case k12 => k_is); (case a13 => k_is); (case l13 => k_is); (case c13 => k_is); (case k13 => k_is); (case a14 => k_is); (case l14 => k_is); (case c14 => k_is); (case k14 => k_is); (case a15 => k_is); (case l15 => k_is); (case c15 => k_is); (case k15 => k_is); (case a16 => k_is); (case l16 => k_is); (case c16 => k_is); (case k16 => k_is); (case a17 => k_is); (case l17 => k_is); (case c17 => k_is); (case k17 => k_is); (case a18 => k_is); (case l18 => k_is); (case c18 => k_is); (case k18 => k_is); (case a19 => k_is); (case l19 => k_is); (case c19 => k_is); (case k19 => k_is); (case a20 => k_is); (case l20 => k_is); (case c20 => k_is); (case k20 => k_is); (case a21 => k_is); (case l21 => k_is); (case c21 => k_is); (case k21 => k_is); (case a22 => k_is); (case l22 => k_is); (case c22 => k_is); (case k22 => k_is); (case a23 => k_is); (case l23 => k_is); (case c23 => k_is); (case k23 => k_is); (case a24 => k_is); (case l24 => k_is); (case c24 => k_is); (case k24 => k_is); (case a25 => k_is); (case l25 => k_is); (case c25 => k_is); (case k25 => k_is); (case a26 => k_is); (case l26 => k_is); (case c26 => k_is); (case k26 => k_is); (case a27 => k_is); (case l27 => k_is); (case c27 => k_is); (case k27 => k_is); (case a28 => k_is); (case l28 => k_is); (case c28 => k_is); (case k28 => k_is); (case a29 => k_is); (case l29 => k_is); (case c29 => k_is); (case k29 => k_is); (case a30 => k_is); (case l30 => k_is); (case c30 => k_is); (case k30 => k_is); (case a31 => k_is); (case l31 => k_is); (case c31 => k_is); (case k31 => k_is); (case a32 => k_is); (case l32 => k_is); (case c32 => k_is); (case k32 => k_is); (case a33 => k_is); (case l33 => k_is); (case c33 => k_is); (case k33 => k_is); (case a34 => k_is); (case l34 => k_is); (case c34 => k_is); (case k34 => k_is); (case a35 => k_is); (case l35 => k_is); (case c35 => k_is); (case k35 => k_is); (case a36 => k_is); (case l36 => k_is); (case c36 => k_is); (case k36 => k_is); (case a37 => k_is); (case l37 => k_is); (case c37 => k_is); (case k37 => k_is); (case a38 => k_is); (case l38 => k_is); (case c38 => k_is); (case k38 => k_is); (case a39 => k_is); (case l39 => k_is); (case c39 => k_is); (case k39 => k_is); (case a40 => k_is); (case l40 => k_is); (case c40 => k_is); (case k40 => k_is); (case a41 => k_is); (case l41 => k_is); (case c41 => k_is); (case k41 => k_is); (case a42 => k_is); (case l42 => k_is); (case c42 => k_is); (case k42 => k_is); (case j13 => k_is); (case j14 => k_is); (case j16 => k_is); (case j18 => k_is); (case j20 => k_is); (case j23 => k_is); (case ai0 => k_is); (case li0 => k_is); (case ci0 => k_is); (case ki0 => k_is); (case ji0 => k_is); (case mi0 => k_is); (case kci0 => k_is); (case ai1 => k_is); (case li1 => k_is); (case ci1 => k_is); (case ki1 => k_is); (case ji1 => k_is); (case mi1 => k_is); (case kci1 => k_is); (case ai2 => k_is); (case li2 => k_is); (case ci2 => k_is); (case ki2 => k_is); (case ji2 => k_is); (case mi2 => k_is); (case kci2 => k_is); (case ai3 => k_is); (case li3 => k_is); (case ci3 => k_is); (case ki3 => k_is); (case ji3 => k_is); (case mi3 => k_is); (case kci3 => k_is); (case ai4 => k_is); (case li4 => k_is); (case ci4 => k_is); (case ki4 => k_is); (case ji4 => k_is); (case mi4 => k_is); (case kci4 => k_is); (case ai5 => k_is); (case li5 => k_is); (case ci5 => k_is); (case ki5 => k_is); (case ji5 => k_is); (case mi5 => k_is); (case kci5 => k_is); (case pg_Number => k_is); (case hd_Number => k_is); (case po_Number => k_is); (case sa_Number => k_is); (case pg_Unknown => k_is); (case hd_Unknown => k_is); (case po_Unknown => k_is); (case sa_Unknown => k_is); (case pg_Plus => k_is); (case hd_Plus => k_is); (case po_Plus => k_is); (case sa_Plus => k_is); (case pg_Minus => k_is); (case hd_Minus => k_is); (case po_Minus => k_is); (case sa_Minus => k_is); (case pg_Times => k_is); (case hd_Times => k_is); (case po_Times => k_is); (case sa_Times => k_is); (case pg_Power => k_is); (case hd_Power => k_is); (case po_Power => k_is); (case sa_Power => k_is); (case na_Minus_one => k_is); (case na_Minus_other => k_is); (case na_Number_bottom => k_is); (case na_Number_top => k_is); (case na_Plus_one => k_is); (case na_Plus_other => k_is); (case na_Power_many => k_is); (case na_Power_one => k_is); (case na_Times_one => k_is); (case na_Times_other => k_is); (case na_Unknown_place => k_is); (case z_abs_ => k_is); (case z_bool_ => k_is); (case z_int_ => k_is); (case z_isinstance => k_is); (case z_len_ => k_is); (case z_list_ => k_is); (case z_max_ => k_is); (case z_min_ => k_is); (case z_range => k_is); (case z_reversed => k_is); (case z_sorted => k_is); (case z_tuple_ => k_is); (case p_NoSpan => k_is); (case q_NoSpan => k_exc); (case r_NoSpan => k_is); (case t_NoSpan => k_is)
