import PyProof.Rows.All
import Wide.All
import OpenK.AllK
import Wide.FinOn
import HandS.ForExc
import HandS.ForMost
import HandS.Wide
import HandS.IsInst
import HandS.ExcIs
import HandS.Deep
import HandS.SortInts
import HandS.TupLe
import HandS.Rev
import HandS.More
import HandS.Iter
import HandS.Head0
import HandS.Head1
import HandS.Head2
import HandS.HeadHook1
import HandS.HeadHook2
import HandS.Codes
import KE.SortData
import HandS.Conv
import PySem.Challenge.RW_boxnarrow_k73_islands_apart
set_option Elab.async false
set_option linter.all false
set_option maxRecDepth 100000
set_option maxHeartbeats 2000000
/-! Values as trees; who owns what. -/
namespace Bn
open PySem PySem.Spec PyProof.Rows L2

inductive D where
  | non | bl (b : Bool) | int (i : Int) | str (s : Str) | ty (n : String)
  | tup (xs : List D)
  | lst (m : Bool) (xs : List D)
  | cst (xs : List D)
  | obj (m : Bool) (c : Str) (ns : List Str) (xs : List D)
  | val (v : V)
  | tpo (xs : List D)
  | dct (m : Bool) (ks : List Key) (xs : List D)
  deriving Inhabited
abbrev Env := List (Option D)
abbrev Ct := Addr → Nat

def isFz : D → Bool
  | .lst true _ => false
  | .obj true _ _ _ => false
  | .tpo _ => false
  | .dct true _ _ => false
  | _ => true

mutual
def freeze : D → D
  | .lst true xs => .lst false (freezeL xs)
  | .lst false xs => .lst false xs
  | .obj true c ns xs => .obj false c ns (freezeL xs)
  | .obj false c ns xs => .obj false c ns xs
  | .tpo xs => .tup (freezeL xs)
  | .dct true ks xs => .dct false ks (freezeL xs)
  | .dct false ks xs => .dct false ks xs
  | .val v => .val v
  | .non => .non | .bl b => .bl b | .int i => .int i | .str s => .str s | .ty n => .ty n | .tup xs => .tup xs | .cst xs => .cst xs
def freezeL : List D → List D
  | [] => []
  | x :: xs => freeze x :: freezeL xs
end

section
variable (K : PySem.W.Frag) (ca : Str → Addr)
mutual
/-- d stands at v, in the part F of the heap that never changes -/
def Rep (F : Hp) : D → V → Prop
  | .non, v => v = .non
  | .bl b, v => v = .bl b
  | .int i, v => v = .int i
  | .str s, v => v = .str s
  | .ty n, v => v = .ty n
  | .val w, v => v = w
  | .tpo _, _ => False
  | .dct true _ _, _ => False
  | .dct false ks ds, v => ∃ a vs, v = .ref a ∧ F a = some (.dK (ks.zip vs)) ∧ ks.length = vs.length ∧ RepL F ds vs
  | .tup ds, v => ∃ a vs, v = .ref a ∧ SqT K F a vs ∧ RepL F ds vs
  | .lst true _, _ => False
  | .lst false ds, v => ∃ a vs, v = .ref a ∧ F a = some (.lst vs) ∧ RepL F ds vs
  | .cst ds, v => ∃ a vs, v = .ref a ∧ SqL K F a vs ∧ RepL F ds vs
  | .obj true _ _ _, _ => False
  | .obj false c ns ds, v => ∃ a dx fs vs, v = .ref a ∧ F a = some (.ins (ca c) dx fs) ∧ fs = ns.zip vs ∧ ns.length = vs.length ∧ RepL F ds vs
def RepL (F : Hp) : List D → List V → Prop
  | [], vs => vs = []
  | d :: ds, vs => ∃ v r, vs = v :: r ∧ Rep F d v ∧ RepL F ds r
end
mutual
/-- d stands at v; what it owns is counted by the last argument -/
def RepO (F H : Hp) : D → V → Ct → Prop
  | .lst true ds, v, f => ∃ a vs g, v = .ref a ∧ H a = some (.lst vs) ∧ RepOs F H ds vs g ∧ ∀ b, f b = (if b = a then 1 else 0) + g b
  | .obj true c ns ds, v, f => ∃ a dx fs vs g, v = .ref a ∧ H a = some (.ins (ca c) dx fs) ∧ fs = ns.zip vs ∧ ns.length = vs.length ∧ RepOs F H ds vs g ∧ ∀ b, f b = (if b = a then 1 else 0) + g b
  | .lst false ds, v, f => Rep K ca F (.lst false ds) v ∧ ∀ b, f b = 0
  | .obj false c ns ds, v, f => Rep K ca F (.obj false c ns ds) v ∧ ∀ b, f b = 0
  | .non, v, f => Rep K ca F .non v ∧ ∀ b, f b = 0
  | .bl x, v, f => Rep K ca F (.bl x) v ∧ ∀ b, f b = 0
  | .int x, v, f => Rep K ca F (.int x) v ∧ ∀ b, f b = 0
  | .str x, v, f => Rep K ca F (.str x) v ∧ ∀ b, f b = 0
  | .ty x, v, f => Rep K ca F (.ty x) v ∧ ∀ b, f b = 0
  | .val x, v, f => Rep K ca F (.val x) v ∧ ∀ b, f b = 0
  | .tpo ds, v, f => ∃ a vs, v = .ref a ∧ SqT K F a vs ∧ RepOs F H ds vs f
  | .dct true ks ds, v, f => ∃ a vs g, v = .ref a ∧ H a = some (.dK (ks.zip vs)) ∧ ks.length = vs.length ∧ RepOs F H ds vs g ∧ ∀ b, f b = (if b = a then 1 else 0) + g b
  | .dct false ks ds, v, f => Rep K ca F (.dct false ks ds) v ∧ ∀ b, f b = 0
  | .tup x, v, f => Rep K ca F (.tup x) v ∧ ∀ b, f b = 0
  | .cst x, v, f => Rep K ca F (.cst x) v ∧ ∀ b, f b = 0
def RepOs (F H : Hp) : List D → List V → Ct → Prop
  | [], vs, f => vs = [] ∧ ∀ b, f b = 0
  | d :: ds, vs, f => ∃ v r f1 f2, vs = v :: r ∧ RepO F H d v f1 ∧ RepOs F H ds r f2 ∧ ∀ b, f b = f1 b + f2 b
end
end

section
variable {K : PySem.W.Frag} {ca : Str → Addr} {F F' H H' : Hp}

theorem sqT_same {K : PySem.W.Frag} {H H' : Hp} {a : Addr} {xs : List V} (e : Same H H') (h : SqT K H a xs) : SqT K H' a xs := by
  rcases h with (h | ⟨o, h⟩) | h
  · exact .inl (.inl (e _ _ h))
  · exact .inl (.inr ⟨o, e _ _ h⟩)
  · exact .inr h

mutual
theorem Rep.mono (e : Same F F') : ∀ (d : D) (v : V), Rep K ca F d v → Rep K ca F' d v
  | .non, _, h => h
  | .bl _, _, h => h
  | .int _, _, h => h
  | .str _, _, h => h
  | .ty _, _, h => h
  | .val _, _, h => h
  | .tpo _, _, h => h
  | .dct true _ _, _, h => h
  | .dct false ks ds, v, h => by
    obtain ⟨a, vs, h1, h2, h3, h4⟩ := h
    exact ⟨a, vs, h1, e _ _ h2, h3, RepL.mono e ds vs h4⟩
  | .tup ds, v, h => by
    obtain ⟨a, vs, h1, h2, h3⟩ := h
    exact ⟨a, vs, h1, sqT_same e h2, RepL.mono e ds vs h3⟩
  | .lst true _, _, h => h
  | .lst false ds, v, h => by
    obtain ⟨a, vs, h1, h2, h3⟩ := h
    exact ⟨a, vs, h1, e _ _ h2, RepL.mono e ds vs h3⟩
  | .cst ds, v, h => by
    obtain ⟨a, vs, h1, h2, h3⟩ := h
    exact ⟨a, vs, h1, e.seq h2, RepL.mono e ds vs h3⟩
  | .obj true _ _ _, _, h => h
  | .obj false c ns ds, v, h => by
    obtain ⟨a, dx, fs, vs, h1, h2, h3, h4, h5⟩ := h
    exact ⟨a, dx, fs, vs, h1, e _ _ h2, h3, h4, RepL.mono e ds vs h5⟩
theorem RepL.mono (e : Same F F') : ∀ (ds : List D) (vs : List V), RepL K ca F ds vs → RepL K ca F' ds vs
  | [], _, h => h
  | d :: ds, _, h => by
    obtain ⟨v, r, h1, h2, h3⟩ := h
    exact ⟨v, r, h1, Rep.mono e d v h2, RepL.mono e ds r h3⟩
end

theorem repO_fz {d : D} (hd : isFz d = true) {v : V} {f : Ct} : RepO K ca F H d v f ↔ (Rep K ca F d v ∧ ∀ b, f b = 0) := by
  cases d with
  | lst m xs => cases m with
    | true => cases hd
    | false => exact Iff.rfl
  | obj m c ns xs => cases m with
    | true => cases hd
    | false => exact Iff.rfl
  | tpo xs => cases hd
  | dct m ks xs => cases m with
    | true => cases hd
    | false => exact Iff.rfl
  | _ => exact Iff.rfl

theorem rep_isFz {d : D} {v : V} (h : Rep K ca F d v) : isFz d = true := by
  cases d with
  | lst m xs => cases m with
    | true => exact h.elim
    | false => rfl
  | obj m c ns xs => cases m with
    | true => exact h.elim
    | false => rfl
  | tpo xs => exact h.elim
  | dct m ks xs => cases m with
    | true => exact h.elim
    | false => rfl
  | _ => rfl

theorem Rep.o {d : D} {v : V} (h : Rep K ca F d v) : RepO K ca F H d v (fun _ => 0) := (repO_fz (rep_isFz h)).mpr ⟨h, fun _ => rfl⟩
theorem RepL.os : ∀ {ds : List D} {vs : List V}, RepL K ca F ds vs → RepOs K ca F H ds vs (fun _ => 0)
  | [], _, h => ⟨h, fun _ => rfl⟩
  | _ :: _, _, ⟨v, r, h1, h2, h3⟩ => ⟨v, r, _, _, h1, h2.o, h3.os, fun _ => rfl⟩

mutual
theorem RepO.mono (e : Same F F') : ∀ (d : D) (v : V) (f : Ct), (∀ a, 0 < f a → H' a = H a) → RepO K ca F H d v f → RepO K ca F' H' d v f
  | .lst true ds, v, f, k, h => by
    obtain ⟨a, vs, g, h1, h2, h3, h4⟩ := h
    refine ⟨a, vs, g, h1, (k a (by rw [h4, if_pos rfl]; omega)).trans h2, RepOs.mono e ds vs g (fun b hb => k b (by rw [h4]; omega)) h3, h4⟩
  | .obj true c ns ds, v, f, k, h => by
    obtain ⟨a, dx, fs, vs, g, h1, h2, h5, h6, h3, h4⟩ := h
    refine ⟨a, dx, fs, vs, g, h1, (k a (by rw [h4, if_pos rfl]; omega)).trans h2, h5, h6, RepOs.mono e ds vs g (fun b hb => k b (by rw [h4]; omega)) h3, h4⟩
  | .lst false ds, v, f, k, h => ⟨Rep.mono e _ _ h.1, h.2⟩
  | .obj false c ns ds, v, f, k, h => ⟨Rep.mono e _ _ h.1, h.2⟩
  | .non, v, f, k, h => ⟨Rep.mono e _ _ h.1, h.2⟩
  | .bl _, v, f, k, h => ⟨Rep.mono e _ _ h.1, h.2⟩
  | .int _, v, f, k, h => ⟨Rep.mono e _ _ h.1, h.2⟩
  | .str _, v, f, k, h => ⟨Rep.mono e _ _ h.1, h.2⟩
  | .ty _, v, f, k, h => ⟨Rep.mono e _ _ h.1, h.2⟩
  | .val _, v, f, k, h => ⟨Rep.mono e _ _ h.1, h.2⟩
  | .tpo ds, v, f, k, h => by
    obtain ⟨a, vs, h1, h2, h3⟩ := h
    exact ⟨a, vs, h1, sqT_same e h2, RepOs.mono e ds vs f k h3⟩
  | .dct true ks ds, v, f, k, h => by
    obtain ⟨a, vs, g, h1, h2, h5, h3, h4⟩ := h
    refine ⟨a, vs, g, h1, (k a (by rw [h4, if_pos rfl]; omega)).trans h2, h5, RepOs.mono e ds vs g (fun b hb => k b (by rw [h4]; omega)) h3, h4⟩
  | .dct false _ _, v, f, k, h => ⟨Rep.mono e _ _ h.1, h.2⟩
  | .tup _, v, f, k, h => ⟨Rep.mono e _ _ h.1, h.2⟩
  | .cst _, v, f, k, h => ⟨Rep.mono e _ _ h.1, h.2⟩
theorem RepOs.mono (e : Same F F') : ∀ (ds : List D) (vs : List V) (f : Ct), (∀ a, 0 < f a → H' a = H a) → RepOs K ca F H ds vs f → RepOs K ca F' H' ds vs f
  | [], _, _, _, h => h
  | d :: ds, _, f, k, h => by
    obtain ⟨v, r, f1, f2, h1, h2, h3, h4⟩ := h
    exact ⟨v, r, f1, f2, h1, RepO.mono e d v f1 (fun b hb => k b (by rw [h4]; omega)) h2, RepOs.mono e ds r f2 (fun b hb => k b (by rw [h4]; omega)) h3, h4⟩
end

mutual
theorem RepO.there : ∀ (d : D) (v : V) (f : Ct), RepO K ca F H d v f → ∀ a, 0 < f a → H a ≠ none
  | .lst true ds, v, f, h, b, hb => by
    obtain ⟨a, vs, g, h1, h2, h3, h4⟩ := h
    by_cases e : b = a
    · subst e; rw [h2]; exact fun z => by cases z
    · rw [h4, if_neg e] at hb; exact RepOs.there ds vs g h3 b (by omega)
  | .obj true c ns ds, v, f, h, b, hb => by
    obtain ⟨a, dx, fs, vs, g, h1, h2, h5, h6, h3, h4⟩ := h
    by_cases e : b = a
    · subst e; rw [h2]; exact fun z => by cases z
    · rw [h4, if_neg e] at hb; exact RepOs.there ds vs g h3 b (by omega)
  | .lst false ds, v, f, h, b, hb => by rw [h.2] at hb; omega
  | .obj false c ns ds, v, f, h, b, hb => by rw [h.2] at hb; omega
  | .non, v, f, h, b, hb => by rw [h.2] at hb; omega
  | .bl _, v, f, h, b, hb => by rw [h.2] at hb; omega
  | .int _, v, f, h, b, hb => by rw [h.2] at hb; omega
  | .str _, v, f, h, b, hb => by rw [h.2] at hb; omega
  | .ty _, v, f, h, b, hb => by rw [h.2] at hb; omega
  | .val _, v, f, h, b, hb => by rw [h.2] at hb; omega
  | .tpo ds, v, f, h, b, hb => by
    obtain ⟨a, vs, h1, h2, h3⟩ := h
    exact RepOs.there ds vs f h3 b hb
  | .dct true ks ds, v, f, h, b, hb => by
    obtain ⟨a, vs, g, h1, h2, h5, h3, h4⟩ := h
    by_cases e : b = a
    · subst e; rw [h2]; exact fun z => by cases z
    · rw [h4, if_neg e] at hb; exact RepOs.there ds vs g h3 b (by omega)
  | .dct false _ _, v, f, h, b, hb => by rw [h.2] at hb; omega
  | .tup _, v, f, h, b, hb => by rw [h.2] at hb; omega
  | .cst _, v, f, h, b, hb => by rw [h.2] at hb; omega
theorem RepOs.there : ∀ (ds : List D) (vs : List V) (f : Ct), RepOs K ca F H ds vs f → ∀ a, 0 < f a → H a ≠ none
  | [], _, f, h, b, hb => by rw [h.2] at hb; omega
  | d :: ds, _, f, h, b, hb => by
    obtain ⟨v, r, f1, f2, h1, h2, h3, h4⟩ := h
    rw [h4] at hb
    by_cases q : 0 < f1 b
    · exact RepO.there d v f1 h2 b q
    · exact RepOs.there ds r f2 h3 b (by omega)
end

mutual
theorem RepO.fz (e : Same F F') : ∀ (d : D) (v : V) (f : Ct), (∀ a, 0 < f a → F' a = H a) → RepO K ca F H d v f → Rep K ca F' (freeze d) v
  | .lst true ds, v, f, k, h => by
    obtain ⟨a, vs, g, h1, h2, h3, h4⟩ := h
    exact ⟨a, vs, h1, (k a (by rw [h4, if_pos rfl]; omega)).trans h2, RepOs.fz e ds vs g (fun b hb => k b (by rw [h4]; omega)) h3⟩
  | .obj true c ns ds, v, f, k, h => by
    obtain ⟨a, dx, fs, vs, g, h1, h2, h5, h6, h3, h4⟩ := h
    exact ⟨a, dx, fs, vs, h1, (k a (by rw [h4, if_pos rfl]; omega)).trans h2, h5, h6, RepOs.fz e ds vs g (fun b hb => k b (by rw [h4]; omega)) h3⟩
  | .lst false ds, v, f, k, h => Rep.mono e _ _ h.1
  | .obj false c ns ds, v, f, k, h => Rep.mono e _ _ h.1
  | .non, v, f, k, h => Rep.mono e _ _ h.1
  | .bl _, v, f, k, h => Rep.mono e _ _ h.1
  | .int _, v, f, k, h => Rep.mono e _ _ h.1
  | .str _, v, f, k, h => Rep.mono e _ _ h.1
  | .ty _, v, f, k, h => Rep.mono e _ _ h.1
  | .val _, v, f, k, h => Rep.mono e _ _ h.1
  | .tpo ds, v, f, k, h => by
    obtain ⟨a, vs, h1, h2, h3⟩ := h
    exact ⟨a, vs, h1, sqT_same e h2, RepOs.fz e ds vs f k h3⟩
  | .dct true ks ds, v, f, k, h => by
    obtain ⟨a, vs, g, h1, h2, h5, h3, h4⟩ := h
    exact ⟨a, vs, h1, (k a (by rw [h4, if_pos rfl]; omega)).trans h2, h5, RepOs.fz e ds vs g (fun b hb => k b (by rw [h4]; omega)) h3⟩
  | .dct false _ _, v, f, k, h => Rep.mono e _ _ h.1
  | .tup _, v, f, k, h => Rep.mono e _ _ h.1
  | .cst _, v, f, k, h => Rep.mono e _ _ h.1
theorem RepOs.fz (e : Same F F') : ∀ (ds : List D) (vs : List V) (f : Ct), (∀ a, 0 < f a → F' a = H a) → RepOs K ca F H ds vs f → RepL K ca F' (freezeL ds) vs
  | [], _, _, _, h => h.1
  | d :: ds, _, f, k, h => by
    obtain ⟨v, r, f1, f2, h1, h2, h3, h4⟩ := h
    exact ⟨v, r, h1, RepO.fz e d v f1 (fun b hb => k b (by rw [h4]; omega)) h2, RepOs.fz e ds r f2 (fun b hb => k b (by rw [h4]; omega)) h3⟩
end

theorem RepL.length : ∀ {ds : List D} {vs : List V}, RepL K ca F ds vs → vs.length = ds.length
  | [], _, h => by have h : _ = [] := h; rw [h]; rfl
  | _ :: _, _, ⟨v, r, h1, h2, h3⟩ => by rw [h1, List.length_cons, List.length_cons, h3.length]
theorem RepOs.length : ∀ {ds : List D} {vs : List V} {f : Ct}, RepOs K ca F H ds vs f → vs.length = ds.length
  | [], _, _, h => by rw [h.1]; rfl
  | _ :: _, _, _, ⟨v, r, _, _, h1, h2, h3, _⟩ => by rw [h1, List.length_cons, List.length_cons, h3.length]
theorem RepL.get : ∀ {ds : List D} {vs : List V} {i : Nat} {d : D}, RepL K ca F ds vs → ds[i]? = some d → ∃ v, vs[i]? = some v ∧ Rep K ca F d v
  | [], _, _, _, _, e => by simp at e
  | d :: _, _, 0, _, ⟨v, r, h1, h2, h3⟩, e => by simp at e; subst e; subst h1; exact ⟨v, rfl, h2⟩
  | _ :: _, _, i + 1, d, ⟨v, r, h1, h2, h3⟩, e => by subst h1; simpa using h3.get (i := i) (by simpa using e)
theorem RepOs.get : ∀ {ds : List D} {vs : List V} {f : Ct} {i : Nat} {d : D}, RepOs K ca F H ds vs f → ds[i]? = some d → ∃ v g, vs[i]? = some v ∧ RepO K ca F H d v g
  | [], _, _, _, _, _, e => by simp at e
  | d :: _, _, _, 0, _, ⟨v, r, f1, f2, h1, h2, h3, _⟩, e => by simp at e; subst e; subst h1; exact ⟨v, f1, rfl, h2⟩
  | _ :: _, _, _, i + 1, d, ⟨v, r, f1, f2, h1, h2, h3, _⟩, e => by subst h1; simpa using h3.get (i := i) (by simpa using e)
theorem RepOs.append : ∀ {ds es : List D} {vs us : List V} {f g : Ct}, RepOs K ca F H ds vs f → RepOs K ca F H es us g → RepOs K ca F H (ds ++ es) (vs ++ us) (fun b => f b + g b)
  | [], es, _, us, f, g, h, k => by
    obtain ⟨rfl, h2⟩ := h
    have e : (fun b => f b + g b) = g := funext fun b => by rw [h2]; omega
    rw [e]; exact k
  | _ :: _, _, _, _, f, g, ⟨v, r, f1, f2, h1, h2, h3, h4⟩, k => by
    subst h1
    exact ⟨v, _, f1, _, rfl, h2, h3.append k, fun b => by show f b + g b = f1 b + (f2 b + g b); rw [h4]; omega⟩
theorem RepOs.split : ∀ {ds es : List D} {ws : List V} {f : Ct}, RepOs K ca F H (ds ++ es) ws f → ∃ vs us g1 g2, ws = vs ++ us ∧ RepOs K ca F H ds vs g1 ∧ RepOs K ca F H es us g2 ∧ ∀ b, f b = g1 b + g2 b
  | [], es, ws, f, h => ⟨[], ws, fun _ => 0, f, rfl, ⟨rfl, fun _ => rfl⟩, h, fun b => by show f b = 0 + f b; omega⟩
  | _ :: _, _, _, f, ⟨v, r, f1, f2, h1, h2, h3, h4⟩ => by
    obtain ⟨vs, us, g1, g2, e, k1, k2, k3⟩ := RepOs.split h3
    subst h1; subst e
    exact ⟨v :: vs, us, fun b => f1 b + g1 b, g2, rfl, ⟨v, vs, f1, g1, rfl, h2, k1, fun _ => rfl⟩, k2, fun b => by show f b = (f1 b + g1 b) + g2 b; rw [h4, k3]; omega⟩
theorem RepOs.split' {ds es : List D} {vs us : List V} {f : Ct} (h : RepOs K ca F H (ds ++ es) (vs ++ us) f) (hl : vs.length = ds.length) : ∃ g1 g2, RepOs K ca F H ds vs g1 ∧ RepOs K ca F H es us g2 ∧ ∀ b, f b = g1 b + g2 b := by
  obtain ⟨vs', us', g1, g2, e, k1, k2, k3⟩ := h.split
  have hl' := k1.length
  obtain ⟨rfl, rfl⟩ := List.append_inj e (by omega)
  exact ⟨g1, g2, k1, k2, k3⟩
end

/-! ### the slots -/
section
variable (K : PySem.W.Frag) (ca : Str → Addr) (F H : Hp)
def Sl : Env → L2.St → Ct → Prop
  | [], σ, f => σ = [] ∧ ∀ b, f b = 0
  | none :: τ, σ, f => ∃ x r, σ = x :: r ∧ Sl τ r f
  | some d :: τ, σ, f => ∃ v r f1 f2, σ = some v :: r ∧ RepO K ca F H d v f1 ∧ Sl τ r f2 ∧ ∀ b, f b = f1 b + f2 b
end
section
variable {K : PySem.W.Frag} {ca : Str → Addr} {F F' H H' : Hp}
theorem Sl.mono (e : Same F F') : ∀ {τ : Env} {σ : L2.St} {f : Ct}, (∀ a, 0 < f a → H' a = H a) → Sl K ca F H τ σ f → Sl K ca F' H' τ σ f
  | [], _, _, _, h => h
  | none :: _, _, _, k, ⟨x, r, h1, h2⟩ => ⟨x, r, h1, Sl.mono e k h2⟩
  | some _ :: _, _, f, k, ⟨v, r, f1, f2, h1, h2, h3, h4⟩ => ⟨v, r, f1, f2, h1, RepO.mono e _ _ _ (fun b hb => k b (by rw [h4]; omega)) h2, Sl.mono e (fun b hb => k b (by rw [h4]; omega)) h3, h4⟩
theorem Sl.there : ∀ {τ : Env} {σ : L2.St} {f : Ct}, Sl K ca F H τ σ f → ∀ a, 0 < f a → H a ≠ none
  | [], _, _, h, b, hb => by rw [h.2] at hb; omega
  | none :: _, _, _, ⟨x, r, h1, h2⟩, b, hb => Sl.there h2 b hb
  | some _ :: _, _, f, ⟨v, r, f1, f2, h1, h2, h3, h4⟩, b, hb => by
    rw [h4] at hb
    by_cases q : 0 < f1 b
    · exact RepO.there _ v f1 h2 b q
    · exact Sl.there h3 b (by omega)
theorem Sl.length : ∀ {τ : Env} {σ : L2.St} {f : Ct}, Sl K ca F H τ σ f → σ.length = τ.length
  | [], _, _, h => by rw [h.1]; rfl
  | none :: _, _, _, ⟨x, r, h1, h2⟩ => by rw [h1, List.length_cons, List.length_cons, Sl.length h2]
  | some _ :: _, _, f, ⟨v, r, f1, f2, h1, h2, h3, h4⟩ => by rw [h1, List.length_cons, List.length_cons, Sl.length h3]
theorem Sl.get : ∀ {τ : Env} {σ : L2.St} {f : Ct} {i : Nat} {d : D}, Sl K ca F H τ σ f → τ[i]? = some (some d) → ∃ v g, σ[i]? = some (some v) ∧ RepO K ca F H d v g
  | [], _, _, _, _, _, e => by simp at e
  | none :: _, _, _, 0, _, _, e => by simp at e
  | none :: _, _, _, i + 1, _, ⟨x, r, h1, h2⟩, e => by subst h1; simpa using Sl.get (i := i) h2 (by simpa using e)
  | some _ :: _, _, _, 0, _, ⟨v, r, f1, f2, h1, h2, h3, h4⟩, e => by simp at e; subst e; subst h1; exact ⟨v, f1, rfl, h2⟩
  | some _ :: _, _, _, i + 1, _, ⟨v, r, f1, f2, h1, h2, h3, h4⟩, e => by subst h1; simpa using Sl.get (i := i) h3 (by simpa using e)
/-- a slot gives away what it has -/
theorem Sl.take : ∀ {τ : Env} {σ : L2.St} {f : Ct} {i : Nat} {d : D}, Sl K ca F H τ σ f → τ[i]? = some (some d) → ∃ v g1 g2, σ[i]? = some (some v) ∧ RepO K ca F H d v g1 ∧ Sl K ca F H (τ.set i none) σ g2 ∧ ∀ b, f b = g1 b + g2 b
  | [], _, _, _, _, _, e => by simp at e
  | none :: _, _, _, 0, _, _, e => by simp at e
  | none :: _, _, _, i + 1, _, ⟨x, r, h1, h2⟩, e => by
    subst h1
    obtain ⟨v, g1, g2, k1, k2, k3, k4⟩ := Sl.take (i := i) h2 (by simpa using e)
    exact ⟨v, g1, g2, by simpa using k1, k2, ⟨x, r, rfl, k3⟩, k4⟩
  | some _ :: _, _, _, 0, _, ⟨v, r, f1, f2, h1, h2, h3, h4⟩, e => by simp at e; subst e; subst h1; exact ⟨v, f1, f2, rfl, h2, ⟨_, r, rfl, h3⟩, h4⟩
  | some _ :: _, _, f, i + 1, _, ⟨v, r, f1, f2, h1, h2, h3, h4⟩, e => by
    subst h1
    obtain ⟨v', g1, g2, k1, k2, k3, k4⟩ := Sl.take (i := i) h3 (by simpa using e)
    exact ⟨v', g1, fun b => f1 b + g2 b, by simpa using k1, k2, ⟨v, r, f1, g2, rfl, h2, k3, fun _ => rfl⟩, fun b => by show f b = g1 b + (f1 b + g2 b); rw [h4, k4]; omega⟩
/-- a slot takes a value -/
theorem Sl.put : ∀ {τ : Env} {σ : L2.St} {f : Ct} {i : Nat} {d : D} {v : V} {g : Ct}, Sl K ca F H τ σ f → i < τ.length → RepO K ca F H d v g → ∃ f2, Sl K ca F H (τ.set i (some d)) (σ.set i (some v)) f2 ∧ ∀ b, f2 b ≤ f b + g b
  | [], _, _, _, _, _, _, _, e, _ => by simp at e
  | none :: _, _, f, 0, _, v, g, ⟨x, r, h1, h2⟩, e, hv => by subst h1; exact ⟨fun b => g b + f b, ⟨v, r, g, f, rfl, hv, h2, fun _ => rfl⟩, fun b => by show g b + f b ≤ f b + g b; omega⟩
  | none :: _, _, f, i + 1, _, v, g, ⟨x, r, h1, h2⟩, e, hv => by
    subst h1
    obtain ⟨f2, k1, k2⟩ := Sl.put (i := i) h2 (by simpa using e) hv
    exact ⟨f2, ⟨x, _, rfl, k1⟩, k2⟩
  | some _ :: _, _, f, 0, _, v, g, ⟨w, r, f1, f2, h1, h2, h3, h4⟩, e, hv => by subst h1; exact ⟨fun b => g b + f2 b, ⟨v, r, g, f2, rfl, hv, h3, fun _ => rfl⟩, fun b => by show g b + f2 b ≤ f b + g b; rw [h4]; omega⟩
  | some _ :: _, _, f, i + 1, _, v, g, ⟨w, r, f1, f2, h1, h2, h3, h4⟩, e, hv => by
    subst h1
    obtain ⟨f3, k1, k2⟩ := Sl.put (i := i) h3 (by simpa using e) hv
    exact ⟨fun b => f1 b + f3 b, ⟨w, _, f1, f3, rfl, h2, k1, fun _ => rfl⟩, fun b => by show f1 b + f3 b ≤ f b + g b; have := k2 b; rw [h4]; omega⟩
/-- a slot forgets what it has -/
theorem Sl.drop : ∀ {τ : Env} {σ : L2.St} {f : Ct} {i : Nat}, Sl K ca F H τ σ f → ∃ f2, Sl K ca F H (τ.set i none) σ f2 ∧ ∀ b, f2 b ≤ f b := fun {τ σ f i} h => by
  cases e : τ[i]? with
  | none => rw [List.set_eq_of_length_le (by simpa using e)]; exact ⟨f, h, fun _ => Nat.le_refl _⟩
  | some x =>
    cases x with
    | none =>
      have : τ.set i none = τ := by
        apply List.ext_getElem?
        intro j
        rw [List.getElem?_set]
        split
        · rename_i q; subst q; split
          · exact e.symm
          · rename_i hl; rw [List.getElem?_eq_none (by omega)]
        · rfl
      rw [this]; exact ⟨f, h, fun _ => Nat.le_refl _⟩
    | some d =>
      obtain ⟨v, g1, g2, _, _, k, q⟩ := h.take e
      exact ⟨g2, k, fun b => by rw [q]; omega⟩
end

/-! ### the state -/
/-- what is fixed while a def's body runs: the classes' places, the unchanging part and the rest of the heap at its entry, the parameters that are handed to be changed -/
structure Bx where
  ca : Str → Addr
  F0 : Hp
  R : Hp
  io : List (Nat × V)
structure Wd (B : Bx) (F H : Hp) (f : Ct) : Prop where
  nd : ∀ a, f a ≤ 1
  dF : ∀ a, 0 < f a → F a = none
  dR : ∀ a, 0 < f a → B.R a = none
  sF : Same F H
  sR : Same B.R H
  s0 : Same B.F0 F
  fr : ∀ a, F a ≠ none → B.F0 a ≠ none ∨ B.R a = none
def IoOk (B : Bx) (σ : L2.St) : Prop := ∀ p ∈ B.io, σ[p.1]? = some (some p.2)
def StT (K : PySem.W.Frag) (B : Bx) (F H : Hp) (σ : L2.St) (τ : Env) (vs : List V) (ds : List D) : Prop :=
  ∃ f1 f2, Sl K B.ca F H τ σ f1 ∧ RepOs K B.ca F H ds vs f2 ∧ Wd B F H (fun b => f1 b + f2 b) ∧ IoOk B σ

theorem Wd.less {B : Bx} {F H : Hp} {f g : Ct} (w : Wd B F H f) (h : ∀ b, g b ≤ f b) : Wd B F H g :=
  ⟨fun a => Nat.le_trans (h a) (w.nd a), fun a q => w.dF a (Nat.lt_of_lt_of_le q (h a)), fun a q => w.dR a (Nat.lt_of_lt_of_le q (h a)), w.sF, w.sR, w.s0, w.fr⟩

theorem same_upd {H : Hp} {p : Addr} {o : HO} (h : H p = none) : Same H (upd H p o) := fun b x e => by
  rw [upd_ne (ne_of_none e h)]
  exact e
/-- something new, unowned, that never changes -/
theorem Wd.frozen {B : Bx} {F H : Hp} {f : Ct} {p : Addr} {o : HO} (w : Wd B F H f) (hp : H p = none) : Wd B (upd F p o) (upd H p o) (fun a => if a = p then 0 else f a) := by
  have hF : F p = none := by
    cases e : F p with
    | none => rfl
    | some x => rw [w.sF _ _ e] at hp; cases hp
  have hR : B.R p = none := by
    cases e : B.R p with
    | none => rfl
    | some x => rw [w.sR _ _ e] at hp; cases hp
  refine ⟨fun a => ?_, fun a q => ?_, fun a q => ?_, fun b x e => ?_, fun b x e => ?_, fun b x e => ?_, fun a q => ?_⟩
  · show (if a = p then 0 else f a) ≤ 1
    split
    · omega
    · exact w.nd a
  · have q : 0 < (if a = p then 0 else f a) := q
    split at q
    · omega
    · rw [upd_ne (by assumption)]; exact w.dF a q
  · have q : 0 < (if a = p then 0 else f a) := q
    split at q
    · omega
    · exact w.dR a q
  · by_cases h : b = p
    · subst h; rw [upd_same] at e ⊢; exact e
    · rw [upd_ne h] at e ⊢; exact w.sF b x e
  · rw [upd_ne (ne_of_none (w.sR b x e) hp)]; exact w.sR b x e
  · rw [upd_ne (ne_of_none (w.s0 b x e) hF)]; exact w.s0 b x e
  · by_cases h : a = p
    · subst h; exact .inr hR
    · rw [upd_ne h] at q; exact w.fr a q
/-- something new that is owned -/
theorem Wd.owned {B : Bx} {F H : Hp} {f : Ct} {p : Addr} {o : HO} (w : Wd B F H f) (hp : H p = none) (hf : f p = 0) : Wd B F (upd H p o) (fun a => (if a = p then 1 else 0) + f a) := by
  have hF : F p = none := by
    cases e : F p with
    | none => rfl
    | some x => rw [w.sF _ _ e] at hp; cases hp
  have hR : B.R p = none := by
    cases e : B.R p with
    | none => rfl
    | some x => rw [w.sR _ _ e] at hp; cases hp
  refine ⟨fun a => ?_, fun a q => ?_, fun a q => ?_, fun b x e => ?_, fun b x e => ?_, w.s0, w.fr⟩
  · show (if a = p then 1 else 0) + f a ≤ 1
    split
    · rename_i h; rw [h, hf]; omega
    · have := w.nd a; omega
  · have q : 0 < (if a = p then 1 else 0) + f a := q
    split at q
    · rename_i h; rw [h]; exact hF
    · exact w.dF a (by omega)
  · have q : 0 < (if a = p then 1 else 0) + f a := q
    split at q
    · rename_i h; rw [h]; exact hR
    · exact w.dR a (by omega)
  · rw [upd_ne (ne_of_none (w.sF b x e) hp)]; exact w.sF b x e
  · rw [upd_ne (ne_of_none (w.sR b x e) hp)]; exact w.sR b x e

/-- what is owned by es is given up: the unchanging part grows by it -/
def grow (F H : Hp) (f : Ct) : Hp := fun a => if 0 < f a then H a else F a
theorem same_grow {B : Bx} {F H : Hp} {f g : Ct} (w : Wd B F H f) (h : ∀ b, g b ≤ f b) : Same F (grow F H g) := fun b x e => by
  unfold grow
  split
  · rename_i q; rw [w.dF b (Nat.lt_of_lt_of_le q (h b))] at e; cases e
  · exact e
theorem Wd.give {B : Bx} {F H : Hp} {f g r : Ct} (w : Wd B F H f) (h : ∀ b, f b = g b + r b) : Wd B (grow F H g) H r := by
  refine ⟨fun a => by have := w.nd a; have := h a; omega, fun a q => ?_, fun a q => w.dR a (by rw [h]; omega), fun b x e => ?_, w.sR, fun b x e => (same_grow w fun b => by rw [h]; omega) b x (w.s0 b x e), fun a q => ?_⟩
  · unfold grow
    have := w.nd a; have := h a
    rw [if_neg (by omega)]
    exact w.dF a (by omega)
  · unfold grow at e
    split at e
    · exact e
    · exact w.sF b x e
  · unfold grow at q
    split at q
    · exact .inr (w.dR a (by rw [h]; omega))
    · exact w.fr a q

section
variable {K : PySem.W.Frag} {B : Bx} {F H : Hp} {σ : L2.St} {τ : Env} {vs us : List V} {ds es : List D} {v : V} {d : D}
theorem StT.push (s : StT K B F H σ τ vs ds) (h : Rep K B.ca F d v) : StT K B F H σ τ (v :: vs) (d :: ds) := by
  obtain ⟨f1, f2, a, b, w, io⟩ := s
  exact ⟨f1, f2, a, ⟨v, vs, _, f2, rfl, h.o, b, fun _ => by omega⟩, w, io⟩
theorem StT.pop (s : StT K B F H σ τ (v :: vs) (d :: ds)) : StT K B F H σ τ vs ds := by
  obtain ⟨f1, f2, a, ⟨_, _, g1, g2, e, _, b, q⟩, w, io⟩ := s
  cases e
  exact ⟨f1, g2, a, b, w.less fun b => by show f1 b + g2 b ≤ f1 b + f2 b; rw [q]; omega, io⟩
theorem StT.pops (s : StT K B F H σ τ (us ++ vs) (es ++ ds)) (hl : us.length = es.length) : StT K B F H σ τ vs ds := by
  obtain ⟨f1, f2, a, b, w, io⟩ := s
  obtain ⟨g1, g2, _, b, q⟩ := b.split' hl
  exact ⟨f1, g2, a, b, w.less fun b => by show f1 b + g2 b ≤ f1 b + f2 b; rw [q]; omega, io⟩
theorem StT.top (s : StT K B F H σ τ (v :: vs) (d :: ds)) : ∃ f, RepO K B.ca F H d v f := by
  obtain ⟨f1, f2, a, ⟨_, _, g1, g2, e, h, b, q⟩, w, io⟩ := s
  cases e
  exact ⟨_, h⟩
theorem StT.tops (s : StT K B F H σ τ (us ++ vs) (es ++ ds)) (hl : us.length = es.length) : ∃ f, RepOs K B.ca F H es us f := by
  obtain ⟨f1, f2, a, b, w, io⟩ := s
  obtain ⟨g1, g2, h, b, q⟩ := b.split' hl
  exact ⟨_, h⟩
theorem StT.topF (s : StT K B F H σ τ (v :: vs) (d :: ds)) (h : isFz d = true) : Rep K B.ca F d v := by
  obtain ⟨f, q⟩ := s.top
  exact ((repO_fz h).mp q).1
/-- the items on top change places with the one below -/
theorem StT.swap (s : StT K B F H σ τ (us ++ v :: vs) (es ++ d :: ds)) (hl : us.length = es.length) : StT K B F H σ τ (v :: us ++ vs) (d :: es ++ ds) := by
  obtain ⟨f1, f2, a, b, w, io⟩ := s
  obtain ⟨g1, g2, b1, ⟨_, _, g3, g4, e, b2, b3, q2⟩, q⟩ := b.split' hl
  cases e
  exact ⟨f1, f2, a, ⟨v, us ++ vs, g3, _, rfl, b2, b1.append b3, fun b => by rw [q, q2]; omega⟩, w, io⟩
theorem StT.same (s : StT K B F H σ τ vs ds) : Same F H := by
  obtain ⟨f1, f2, a, b, w, io⟩ := s
  exact w.sF
theorem StT.get {i : Nat} (s : StT K B F H σ τ vs ds) (e : τ[i]? = some (some d)) : ∃ v f, σ[i]? = some (some v) ∧ RepO K B.ca F H d v f := by
  obtain ⟨f1, f2, a, b, w, io⟩ := s
  exact a.get e
theorem StT.take {i : Nat} (s : StT K B F H σ τ vs ds) (e : τ[i]? = some (some d)) : ∃ v, σ[i]? = some (some v) ∧ StT K B F H σ (τ.set i none) (v :: vs) (d :: ds) := by
  obtain ⟨f1, f2, a, b, w, io⟩ := s
  obtain ⟨v, g1, g2, e1, h1, h2, q⟩ := a.take e
  refine ⟨v, e1, g2, fun b => g1 b + f2 b, h2, ⟨v, vs, g1, f2, rfl, h1, b, fun _ => rfl⟩, ?_, io⟩
  have e2 : (fun b => g2 b + (g1 b + f2 b)) = fun b => f1 b + f2 b := funext fun b => by rw [q]; omega
  rw [e2]; exact w
/-- free: is slot i none of the parameters that are handed to be changed -/
def ioFree (B : Bx) (i : Nat) : Prop := ∀ p ∈ B.io, p.1 ≠ i
theorem StT.put {i : Nat} (s : StT K B F H σ τ (v :: vs) (d :: ds)) (hi : i < τ.length) (hf : ioFree B i) : StT K B F H (σ.set i (some v)) (τ.set i (some d)) vs ds := by
  obtain ⟨f1, f2, a, ⟨_, _, g1, g2, e, h, b, q⟩, w, io⟩ := s
  cases e
  obtain ⟨f3, k1, k2⟩ := a.put hi h
  refine ⟨f3, g2, k1, b, w.less fun b => by show f3 b + g2 b ≤ f1 b + f2 b; have := k2 b; rw [q]; omega, fun p hp => ?_⟩
  rw [List.getElem?_set_ne (Ne.symm (hf p hp))]
  exact io p hp
theorem StT.putBack {i : Nat} (s : StT K B F H σ τ (v :: vs) (d :: ds)) (hi : i < τ.length) (hv : σ[i]? = some (some v)) : StT K B F H σ (τ.set i (some d)) vs ds := by
  obtain ⟨f1, f2, a, ⟨_, _, g1, g2, e, h, b, q⟩, w, io⟩ := s
  cases e
  obtain ⟨f3, k1, k2⟩ := a.put hi h
  have e1 : σ.set i (some v) = σ := by
    apply List.ext_getElem?
    intro j
    rw [List.getElem?_set]
    split
    · rename_i q; subst q; split
      · exact hv.symm
      · rename_i hl; rw [List.getElem?_eq_none (by omega)]
    · rfl
  rw [e1] at k1
  exact ⟨f3, g2, k1, b, w.less fun b => by show f3 b + g2 b ≤ f1 b + f2 b; have := k2 b; rw [q]; omega, io⟩
theorem StT.forget {i : Nat} (s : StT K B F H σ τ vs ds) : StT K B F H σ (τ.set i none) vs ds := by
  obtain ⟨f1, f2, a, b, w, io⟩ := s
  obtain ⟨g, k, q⟩ := a.drop (i := i)
  exact ⟨g, f2, k, b, w.less fun b => by show g b + f2 b ≤ f1 b + f2 b; have := q b; omega, io⟩
/-- the items on top are given up to the unchanging part -/
theorem StT.freeze (s : StT K B F H σ τ (us ++ vs) (es ++ ds)) (hl : us.length = es.length) : ∃ F', Same F F' ∧ RepL K B.ca F' (freezeL es) us ∧ StT K B F' H σ τ vs ds := by
  obtain ⟨f1, f2, a, b, w, io⟩ := s
  obtain ⟨g1, g2, b1, b2, q⟩ := b.split' hl
  have le : ∀ b, g1 b ≤ f1 b + f2 b := fun b => by rw [q]; omega
  have sm : Same F (grow F H g1) := same_grow w le
  refine ⟨grow F H g1, sm, RepOs.fz sm _ _ _ (fun a h => by unfold grow; rw [if_pos h]) b1, f1, g2, a.mono sm fun _ _ => rfl, RepOs.mono sm _ _ _ (fun _ _ => rfl) b2, ?_, io⟩
  exact w.give (g := g1) (r := fun b => f1 b + g2 b) fun b => by show f1 b + f2 b = g1 b + (f1 b + g2 b); rw [q]; omega
theorem StT.new (s : StT K B F H σ τ vs ds) {p : Addr} {o : HO} (hp : H p = none) : StT K B (upd F p o) (upd H p o) σ τ vs ds ∧ Same F (upd F p o) := by
  obtain ⟨f1, f2, a, b, w, io⟩ := s
  have hF : F p = none := by
    cases e : F p with
    | none => rfl
    | some x => rw [w.sF _ _ e] at hp; cases hp
  have sm : Same F (upd F p o) := Bn.same_upd hF
  have k1 : ∀ x, 0 < f1 x → upd H p o x = H x := fun x hx => upd_ne fun e => a.there x hx (e ▸ hp)
  have k2 : ∀ x, 0 < f2 x → upd H p o x = H x := fun x hx => upd_ne fun e => b.there _ _ _ x hx (e ▸ hp)
  refine ⟨⟨f1, f2, a.mono sm k1, RepOs.mono sm _ _ _ k2 b, (w.frozen hp).less fun x => ?_, io⟩, sm⟩
  show f1 x + f2 x ≤ if x = p then 0 else f1 x + f2 x
  split
  · rename_i e
    have h1 : ¬ 0 < f1 x := fun h => a.there x h (e ▸ hp)
    have h2 : ¬ 0 < f2 x := fun h => b.there _ _ _ x h (e ▸ hp)
    omega
  · omega
theorem StT.newTup (s : StT K B F H σ τ vs ds) {p : Addr} (hp : H p = none) (h : RepL K B.ca F es us) : StT K B (upd F p (.tup us)) (upd H p (.tup us)) σ τ (.ref p :: vs) (.tup es :: ds) := by
  obtain ⟨s', sm⟩ := s.new (o := .tup us) hp
  exact s'.push ⟨p, us, rfl, .inl (.inl upd_same), RepL.mono sm _ _ h⟩
theorem StT.newLst (s : StT K B F H σ τ (us ++ vs) (es ++ ds)) (hl : us.length = es.length) {p : Addr} (hp : H p = none) : StT K B F (upd H p (.lst us)) σ τ (.ref p :: vs) (.lst true es :: ds) := by
  obtain ⟨f1, f2, a, b, w, io⟩ := s
  obtain ⟨g1, g2, b1, b2, q⟩ := b.split' hl
  have k1 : ∀ x, 0 < f1 x → upd H p (.lst us) x = H x := fun x hx => upd_ne fun e => a.there x hx (e ▸ hp)
  have k2 : ∀ x, 0 < g1 x → upd H p (.lst us) x = H x := fun x hx => upd_ne fun e => b1.there _ _ _ x hx (e ▸ hp)
  have k3 : ∀ x, 0 < g2 x → upd H p (.lst us) x = H x := fun x hx => upd_ne fun e => b2.there _ _ _ x hx (e ▸ hp)
  have z : f1 p + f2 p = 0 := by
    have h1 : ¬ 0 < f1 p := fun h => a.there p h hp
    have h2 : ¬ 0 < f2 p := fun h => b.there _ _ _ p h hp
    omega
  refine ⟨f1, fun b => ((if b = p then 1 else 0) + g1 b) + g2 b, a.mono (Same.refl _) k1, ⟨.ref p, vs, fun b => (if b = p then 1 else 0) + g1 b, g2, rfl, ⟨p, us, g1, rfl, upd_same, RepOs.mono (Same.refl _) _ _ _ k2 b1, fun _ => rfl⟩, RepOs.mono (Same.refl _) _ _ _ k3 b2, fun _ => rfl⟩, ?_, io⟩
  have e : (fun b => f1 b + (((if b = p then 1 else 0) + g1 b) + g2 b)) = fun b => (if b = p then 1 else 0) + (f1 b + f2 b) := funext fun b => by rw [q]; omega
  rw [e]
  exact w.owned hp z
/-- the list on top is changed; its new items are made of its old ones and of the items us below it -/
theorem StT.change {a : Addr} {xs ys : List V} {es' : List D} (s : StT K B F H σ τ (.ref a :: (us ++ vs)) (.lst true es :: (ds ++ es'))) (hl : us.length = ds.length) (hx : H a = some (.lst xs)) {es2 : List D}
    (k : ∀ g1 g2, RepOs K B.ca F H es xs g1 → RepOs K B.ca F H ds us g2 → ∃ g, RepOs K B.ca F H es2 ys g ∧ ∀ b, g b ≤ g1 b + g2 b) :
    StT K B F (upd H a (.lst ys)) σ τ (.ref a :: vs) (.lst true es2 :: es') := by
  obtain ⟨f1, f2, A, ⟨_, _, g1, g2, e, h, b, q⟩, w, io⟩ := s
  cases e
  obtain ⟨a', xs', g3, e', hx', h3, q3⟩ := h
  cases e'
  rw [hx] at hx'; cases hx'
  obtain ⟨g4, g5, b1, b2, q4⟩ := b.split' hl
  obtain ⟨g, hg, hle⟩ := k g3 g4 h3 b1
  have one := w.nd a
  have tot : ∀ b, f1 b + f2 b = f1 b + ((if b = a then 1 else 0) + g3 b + (g4 b + g5 b)) := fun b => by rw [q, q3, q4]
  have za : f1 a = 0 ∧ g3 a = 0 ∧ g4 a = 0 ∧ g5 a = 0 := by
    have := tot a
    rw [if_pos rfl] at this
    omega
  have off : ∀ {φ : Ct}, φ a = 0 → ∀ x, 0 < φ x → upd H a (.lst ys) x = H x := fun {φ} hz x hx => upd_ne fun e => by rw [e, hz] at hx; omega
  have zg : g a = 0 := by have := hle a; omega
  refine ⟨f1, fun b => ((if b = a then 1 else 0) + g b) + g5 b, A.mono (Same.refl _) (off za.1), ⟨.ref a, vs, fun b => (if b = a then 1 else 0) + g b, g5, rfl, ⟨a, ys, g, rfl, upd_same, RepOs.mono (Same.refl _) _ _ _ (off zg) hg, fun _ => rfl⟩,
    RepOs.mono (Same.refl _) _ _ _ (off za.2.2.2) b2, fun _ => rfl⟩, ?_, io⟩
  have w2 : Wd B F H (fun b => f1 b + (((if b = a then 1 else 0) + g b) + g5 b)) := w.less fun b => by
    show f1 b + (((if b = a then 1 else 0) + g b) + g5 b) ≤ f1 b + f2 b
    have := tot b; have := hle b; omega
  have fa : F a = none := w.dF a (by have := tot a; rw [if_pos rfl] at this; show 0 < f1 a + f2 a; omega)
  have ra : B.R a = none := w.dR a (by have := tot a; rw [if_pos rfl] at this; show 0 < f1 a + f2 a; omega)
  exact ⟨w2.nd, w2.dF, w2.dR, fun b x e => by rw [upd_ne (ne_of_none e fa)]; exact w.sF b x e, fun b x e => by rw [upd_ne (ne_of_none e ra)]; exact w.sR b x e, w.s0, w.fr⟩
/-- behind a call that left all as it was, and made something -/
theorem StT.called {F' H' : Hp} {g : Ct} (s : StT K B F H σ τ vs ds) (h1 : Same F F') (h2 : Same F' H') (h3 : Same H H') (hv : RepO K B.ca F' H' d v g) (h4 : ∀ a, g a ≤ 1) (h5 : ∀ a, 0 < g a → F' a = none ∧ H a = none)
    (h6 : ∀ a, F' a ≠ none → F a ≠ none ∨ H a = none) : StT K B F' H' σ τ (v :: vs) (d :: ds) := by
  obtain ⟨f1, f2, a, b, w, io⟩ := s
  have k : ∀ x, H x ≠ none → H' x = H x := fun x hx => by
    cases e : H x with
    | none => exact absurd e hx
    | some o => exact h3 _ _ e
  have t1 : ∀ x, 0 < f1 x → H x ≠ none := a.there
  have t2 : ∀ x, 0 < f2 x → H x ≠ none := b.there _ _ _
  refine ⟨f1, fun b => g b + f2 b, a.mono h1 fun x hx => k x (t1 x hx), ⟨v, vs, g, f2, rfl, hv, RepOs.mono h1 _ _ _ (fun x hx => k x (t2 x hx)) b, fun _ => rfl⟩, ?_, io⟩
  have split : ∀ x, 0 < f1 x + (g x + f2 x) → (0 < g x ∧ f1 x = 0 ∧ f2 x = 0) ∨ (g x = 0 ∧ 0 < f1 x + f2 x) := fun x hx => by
    by_cases q : 0 < g x
    · have hn := (h5 x q).2
      have : ¬ 0 < f1 x := fun h => t1 x h hn
      have : ¬ 0 < f2 x := fun h => t2 x h hn
      exact .inl ⟨q, by omega, by omega⟩
    · exact .inr ⟨by omega, by omega⟩
  have old : ∀ x, 0 < f1 x + f2 x → H x ≠ none := fun x hx => by
    by_cases q : 0 < f1 x
    · exact t1 x q
    · exact t2 x (by omega)
  refine ⟨fun x => ?_, fun x hx => ?_, fun x hx => ?_, h2, w.sR.trans h3, w.s0.trans h1, fun x hx => ?_⟩
  · show f1 x + (g x + f2 x) ≤ 1
    by_cases q : 0 < f1 x + (g x + f2 x)
    · rcases split x q with ⟨_, e1, e2⟩ | ⟨e1, _⟩
      · have := h4 x; omega
      · have := w.nd x; omega
    · omega
  · rcases split x hx with ⟨e0, _⟩ | ⟨_, e0⟩
    · exact (h5 x e0).1
    · have hF := w.dF x e0
      cases e : F' x with
      | none => rfl
      | some o =>
        rcases h6 x (by rw [e]; exact fun z => by cases z) with z | z
        · exact absurd hF z
        · exact absurd z (old x e0)
  · rcases split x hx with ⟨e0, _⟩ | ⟨_, e0⟩
    · cases e : B.R x with
      | none => rfl
      | some o => have z := (h5 x e0).2; rw [w.sR _ _ e] at z; cases z
    · exact w.dR x e0
  · rcases h6 x hx with z | z
    · exact w.fr x z
    · refine .inr ?_
      cases e : B.R x with
      | none => rfl
      | some o => rw [w.sR _ _ e] at z; cases z
/-- the heap has grown -/
theorem StT.grown {H' : Hp} (s : StT K B F H σ τ vs ds) (h : Same H H') : StT K B F H' σ τ vs ds := by
  obtain ⟨f1, f2, a, b, w, io⟩ := s
  have k : ∀ x, H x ≠ none → H' x = H x := fun x hx => by
    cases e : H x with
    | none => exact absurd e hx
    | some o => exact h _ _ e
  exact ⟨f1, f2, a.mono (Same.refl _) fun x hx => k x (a.there x hx), RepOs.mono (Same.refl _) _ _ _ (fun x hx => k x (b.there _ _ _ x hx)) b, ⟨w.nd, w.dF, w.dR, w.sF.trans h, w.sR.trans h, w.s0, w.fr⟩, io⟩
end
end Bn

/-! Readings by functions of trees. -/
namespace Bn
open PySem PySem.Spec PyProof.Rows L2

inductive R (α : Type) where
  | ok (a : α) (τ : Env) | ex (c : Str) (τ : Env) | bad
inductive SR where
  | nx (τ : Env) | rt (d : D) (τ : Env) | bk (τ : Env) | ct (τ : Env) | ex (c : Str) (τ : Env) | bad
inductive CR where
  | ok (d : D) | ex (c : Str) | bad
abbrev ME := Env → R D
abbrev MZ := Env → Option D
abbrev MT := Env → R Bool
abbrev MA := Env → R (List D)
abbrev MS := Env → SR

def R.bind {α β : Type} : R α → (α → Env → R β) → R β
  | .ok a τ, k => k a τ
  | .ex c τ, _ => .ex c τ
  | .bad, _ => .bad
def post {α : Type} (y : α → Env → Prop) (x : Str → Env → Prop) : R α → Prop
  | .ok a τ => y a τ
  | .ex c τ => x c τ
  | .bad => False
theorem post_bind {α β : Type} {y : β → Env → Prop} {x : Str → Env → Prop} {r : R α} {k : α → Env → R β} (h : post y x (r.bind k)) : post (fun a τ => post y x (k a τ)) x r := by
  cases r <;> exact h
theorem post_imp {α : Type} {y y' : α → Env → Prop} {x x' : Str → Env → Prop} {r : R α} (h : post y x r) (hy : ∀ a τ, y a τ → y' a τ) (hx : ∀ c τ, x c τ → x' c τ) : post y' x' r := by
  cases r with
  | ok a τ => exact hy _ _ h
  | ex c τ => exact hx _ _ h
  | bad => exact h

section
variable {X : Cx}
theorem PE.imp {e : Expr} {t t' : TE} (h : PE X e t) (k : ∀ σ H Q, t' σ H Q → t σ H Q) : PE X e t' := ⟨fun p s σ H Q I q => h.run p s σ H Q I (k _ _ _ q)⟩
theorem PT.imp {e : Expr} {t t' : TT} (h : PT X e t) (k : ∀ σ H Q, t' σ H Q → t σ H Q) : PT X e t' := ⟨fun p s σ H Q I q => h.run p s σ H Q I (k _ _ _ q)⟩
theorem PW.imp {e : Expr} {t t' : TT} (h : PW X e t) (k : ∀ σ H Q, t' σ H Q → t σ H Q) : PW X e t' := ⟨fun w p s σ H Q I q => h.run w p s σ H Q I (k _ _ _ q)⟩
theorem PA.imp {e : List Expr} {t t' : TA} (h : PA X e t) (k : ∀ σ H Q, t' σ H Q → t σ H Q) : PA X e t' := ⟨fun z p s σ H Q I q => h.run z p s σ H Q I (k _ _ _ q)⟩
theorem PS.imp {e : Stmt} {t t' : TS} (h : PS X e t) (k : ∀ D σ H, t' D σ H → t D σ H) : PS X e t' := ⟨fun p s σ H D I q => h.run p s σ H D I (k _ _ _ q)⟩
theorem PSs.imp {e : List Stmt} {t t' : TS} (h : PSs X e t) (k : ∀ D σ H, t' D σ H → t D σ H) : PSs X e t' := ⟨fun p s σ H D I q => h.run p s σ H D I (k _ _ _ q)⟩
theorem PG.imp {e : Expr} {t t' : TG} (h : PG X e t) (k : ∀ v σ H Q, t' v σ H Q → t v σ H Q) : PG X e t' := ⟨fun p s σ H v u Q I r q => h.run p s σ H v u Q I r (k _ _ _ _ q)⟩
theorem PGs.imp {e : List Expr} {t t' : TGs} (h : PGs X e t) (k : ∀ v σ H Q, t' v σ H Q → t v σ H Q) : PGs X e t' := ⟨fun p s σ H v u Q I r q => h.run p s σ H v u Q I r (k _ _ _ _ q)⟩
end

section
variable (K : PySem.W.Frag) (B : Bx) (W : WX)
def exW (σ : L2.St) (vs : List V) (ds : List D) : Str → Env → Prop := fun c τ' => ∀ F' H', StT K B F' H' σ τ' vs ds → W (.ref (B.ca c)) none σ H'
def rdE (m : ME) : TE := fun σ H Q => ∃ F τ vs ds, StT K B F H σ τ vs ds ∧ post (fun d τ' => ∀ v F' H', StT K B F' H' σ τ' (v :: vs) (d :: ds) → Q v H') (exW K B W σ vs ds) (m τ)
def rdA (m : MA) : TA := fun σ H Q => ∃ F τ vs ds, StT K B F H σ τ vs ds ∧ post (fun es τ' => ∀ us F' H', us.length = es.length → StT K B F' H' σ τ' (us ++ vs) (es ++ ds) → Q us H') (exW K B W σ vs ds) (m τ)
def rdT (m : MT) : TT := fun σ H Q => ∃ F τ vs ds, StT K B F H σ τ vs ds ∧ post (fun b τ' => ∀ F' H', StT K B F' H' σ τ' vs ds → Q b H') (exW K B W σ vs ds) (m τ)
def rdZ (m : MZ) : TE := fun σ H Q => ∃ F τ vs ds, StT K B F H σ τ vs ds ∧ ∃ d, m τ = some d ∧ ∀ v f, RepO K B.ca F H d v f → Q v H
def postS (vs : List V) (ds : List D) (D : Ends) : SR → Prop
  | .nx τ => ∀ σ F H, StT K B F H σ τ vs ds → D.nx σ H
  | .rt d τ => ∀ v σ F H, StT K B F H σ τ (v :: vs) (d :: ds) → D.rt v H
  | .bk τ => ∀ σ F H, StT K B F H σ τ vs ds → D.bk σ H
  | .ct τ => ∀ σ F H, StT K B F H σ τ vs ds → D.ct σ H
  | .ex c τ => ∀ σ F H, StT K B F H σ τ vs ds → W (.ref (B.ca c)) none σ H
  | .bad => False
def rdS (m : MS) : TS := fun D σ H => ∃ F τ vs ds, StT K B F H σ τ vs ds ∧ postS K B W vs ds D (m τ)
/-- a target; sl: the slots that it sets -/
def rdG (sl : List Nat) (g : D → Env → Option Env) : TG := fun v σ H Q => ∃ F τ vs ds d, StT K B F H σ τ (v :: vs) (d :: ds) ∧ ∃ τ', g d τ = some τ' ∧
  ∀ σ' F' H', StT K B F' H' σ' τ' vs ds → σ'.length = σ.length → (∀ j, j ∉ sl → σ'[j]? = σ[j]?) → Q σ' H'
def rdGs (sl : List Nat) (g : List D → Env → Option Env) : TGs := fun ws σ H Q => ∃ F τ vs ds es, ws.length = es.length ∧ StT K B F H σ τ (ws ++ vs) (es ++ ds) ∧ ∃ τ', g es τ = some τ' ∧
  ∀ σ' F' H', StT K B F' H' σ' τ' vs ds → σ'.length = σ.length → (∀ j, j ∉ sl → σ'[j]? = σ[j]?) → Q σ' H'
end

/-! ### names and constants -/
def zVar (i : Nat) : MZ := fun τ => τ.getD i none
def zC (d : D) : MZ := fun _ => some d
theorem getD_some {τ : Env} {i : Nat} {d : D} (h : τ.getD i none = some d) : τ[i]? = some (some d) := by
  rw [List.getD_eq_getElem?_getD] at h
  cases e : τ[i]? with
  | none => rw [e] at h; cases h
  | some x => rw [e] at h; exact congrArg some h
section
variable {X : Cx} {B : Bx} {W : WX}
theorem z_var {i : Nat} {e : Expr} (h : PE X e (tVar i)) : PE X e (rdZ X.K B (zVar i)) := PE.imp h fun σ H Q ⟨F, τ, vs, ds, s, d, e, k⟩ => by
  obtain ⟨v, f, h1, h2⟩ := s.get (getD_some e)
  exact ⟨v, h1, k v f h2⟩
theorem z_c {e : Expr} {d : D} {v : V} (h : PE X e (tC v)) (hd : ∀ F, Rep X.K B.ca F d v) : PE X e (rdZ X.K B (zC d)) := PE.imp h fun σ H Q ⟨F, τ, vs, ds, s, d', e, k⟩ => by
  cases (show some d = some d' from e)
  exact k v _ (hd F).o
theorem z_int {i j pos} : PE X (.Constant (.int i) j pos) (rdZ X.K B (zC (.int i))) := z_c pe_int fun _ => rfl
theorem z_bl {b j pos} : PE X (.Constant (.bool b) j pos) (rdZ X.K B (zC (.bl b))) := z_c pe_bl fun _ => rfl
theorem z_non {j pos} : PE X (.Constant .none j pos) (rdZ X.K B (zC .non)) := z_c pe_non fun _ => rfl
/-! ### from Z to E -/
def eZ (m : MZ) : ME := fun τ => match m τ with
  | some d => if isFz d = true then .ok d τ else .bad
  | none => .bad
theorem e_z {e : Expr} {m : MZ} (h : PE X e (rdZ X.K B m)) : PE X e (rdE X.K B W (eZ m)) := PE.imp h fun σ H Q ⟨F, τ, vs, ds, s, k⟩ => by
  unfold eZ at k
  cases e : m τ with
  | none => rw [e] at k; exact k.elim
  | some d =>
    rw [e] at k
    by_cases z : isFz d = true
    · simp only [z, if_true] at k
      exact ⟨F, τ, vs, ds, s, d, e, fun v f r => k v F H (s.push ((repO_fz z).mp r).1)⟩
    · simp only [z] at k
      exact k.elim
/-- a name's value; what it owns is given up -/
def eVar (i : Nat) : ME := fun τ => match τ.getD i none with
  | some d => if isFz d = true then .ok d τ else .ok (freeze d) (τ.set i (some (freeze d)))
  | none => .bad
theorem e_var {i : Nat} {e : Expr} (h : PE X e (tVar i)) : PE X e (rdE X.K B W (eVar i)) := PE.imp h fun σ H Q ⟨F, τ, vs, ds, s, k⟩ => by
  unfold eVar at k
  cases e : τ.getD i none with
  | none => rw [e] at k; exact k.elim
  | some d =>
    rw [e] at k
    have e' := getD_some e
    by_cases z : isFz d = true
    · simp only [z, if_true] at k
      obtain ⟨v, f, h1, h2⟩ := s.get e'
      exact ⟨v, h1, k v F H (s.push ((repO_fz z).mp h2).1)⟩
    · simp only [z] at k
      obtain ⟨v, h1, s1⟩ := s.take e'
      obtain ⟨F', sm, ⟨_, _, e2, r, _⟩, s2⟩ := StT.freeze (us := [v]) (es := [d]) s1 rfl
      cases e2
      have s3 := StT.putBack (s2.push r) (i := i) (by rw [List.length_set]; exact (List.getElem?_eq_some_iff.mp e').1) h1
      rw [List.set_set] at s3
      exact ⟨v, h1, k v F' H (s3.push r)⟩
/-- a name gives its value away -/
def eMv (i : Nat) : ME := fun τ => match τ.getD i none with
  | some d => .ok d (τ.set i none)
  | none => .bad
theorem e_mv {i : Nat} {e : Expr} (h : PE X e (tVar i)) : PE X e (rdE X.K B W (eMv i)) := PE.imp h fun σ H Q ⟨F, τ, vs, ds, s, k⟩ => by
  unfold eMv at k
  cases e : τ.getD i none with
  | none => rw [e] at k; exact k.elim
  | some d =>
    rw [e] at k
    obtain ⟨v, h1, s1⟩ := s.take (getD_some e)
    exact ⟨v, h1, k v F H s1⟩

/-! ### operators by values -/
def OpS (K : PySem.W.Frag) (r : R2) (g : D → D → Option D) : Prop := ∀ (ca : Str → Addr) (F H : Hp) (x y : V) (a b d : D) (f1 f2 : Ct) (Q : VK), Same F H → RepO K ca F H a x f1 → RepO K ca F H b y f2 → g a b = some d → (∀ v f, RepO K ca F H d v f → Q v H) → r x y H Q
def UnS (K : PySem.W.Frag) (r : V → Hp → VK → Prop) (g : D → Option D) : Prop := ∀ (ca : Str → Addr) (F H : Hp) (x : V) (a d : D) (f1 : Ct) (Q : VK), Same F H → RepO K ca F H a x f1 → g a = some d → (∀ v f, RepO K ca F H d v f → Q v H) → r x H Q
def CallS (K : PySem.W.Frag) (r : List V → Hp → VK → Prop) (g : List D → Option D) : Prop := ∀ (ca : Str → Addr) (F H : Hp) (xs : List V) (as : List D) (d : D) (f1 : Ct) (Q : VK), Same F H → RepOs K ca F H as xs f1 → g as = some d → (∀ v f, RepO K ca F H d v f → Q v H) → r xs H Q
def z2 (g : D → D → Option D) (m n : MZ) : MZ := fun τ => (m τ).bind fun a => (n τ).bind fun b => g a b
def z1 (g : D → Option D) (m : MZ) : MZ := fun τ => (m τ).bind g
def ofO (o : Option D) (τ : Env) : R D := match o with
  | some d => if isFz d = true then .ok d τ else .bad
  | none => .bad
def e2 (g : D → D → Option D) (m n : ME) : ME := fun τ => (m τ).bind fun a τ1 => (n τ1).bind fun b τ2 => ofO (g a b) τ2
def e1 (g : D → Option D) (m : ME) : ME := fun τ => (m τ).bind fun a τ1 => ofO (g a) τ1
def eC (g : List D → Option D) (m : MA) : ME := fun τ => (m τ).bind fun a τ1 => ofO (g a) τ1
theorem post_ofO {y : D → Env → Prop} {x : Str → Env → Prop} {o : Option D} {τ : Env} (h : post y x (ofO o τ)) : ∃ d, o = some d ∧ isFz d = true ∧ y d τ := by
  unfold ofO at h
  cases o with
  | none => exact h.elim
  | some d =>
    by_cases z : isFz d = true
    · simp only [z, if_true] at h; exact ⟨d, rfl, z, h⟩
    · simp only [z] at h; exact h.elim
theorem bind_some {α β : Type} {o : Option α} {k : α → Option β} {d : β} (h : o.bind k = some d) : ∃ a, o = some a ∧ k a = some d := by
  cases o with
  | none => cases h
  | some a => exact ⟨a, rfl, h⟩
theorem imp2Z {r : R2} {g : D → D → Option D} {m n : MZ} (hs : OpS X.K r g) (σ : L2.St) (H : Hp) (Q : VK) (h : rdZ X.K B (z2 g m n) σ H Q) : tOp r (rdZ X.K B m) (rdZ X.K B n) σ H Q := by
  obtain ⟨F, τ, vs, ds, s, d, e, k⟩ := h
  obtain ⟨a, ea, e⟩ := bind_some e
  obtain ⟨b, eb, e⟩ := bind_some e
  exact ⟨F, τ, vs, ds, s, a, ea, fun x f1 hx => ⟨F, τ, vs, ds, s, b, eb, fun y f2 hy => hs _ _ _ _ _ _ _ _ _ _ _ s.same hx hy e k⟩⟩
theorem imp2E {r : R2} {g : D → D → Option D} {m n : ME} (hs : OpS X.K r g) (σ : L2.St) (H : Hp) (Q : VK) (h : rdE X.K B W (e2 g m n) σ H Q) : tOp r (rdE X.K B W m) (rdE X.K B W n) σ H Q := by
  obtain ⟨F, τ, vs, ds, s, p⟩ := h
  refine ⟨F, τ, vs, ds, s, post_imp (post_bind p) (fun a τ1 q x F1 H1 s1 => ⟨F1, τ1, _, _, s1, post_imp (post_bind q) (fun b τ2 q y F2 H2 s2 => ?_) fun c τ2 q F2 H2 s2 => q F2 H2 s2.pop⟩) fun _ _ q => q⟩
  obtain ⟨d, e, z, q⟩ := post_ofO q
  obtain ⟨f2, hy⟩ := s2.top
  obtain ⟨f1, hx⟩ := s2.pop.top
  exact hs _ _ _ _ _ _ _ _ _ _ _ s2.same hx hy e fun v f hv => q v F2 H2 (s2.pop.pop.push ((repO_fz z).mp hv).1)
theorem z_op {op : Operator} {a b : Expr} {pos : Pos} {r : R2} {g : D → D → Option D} {m n : MZ} (ho : OpR X (binaryOp op) r) (hs : OpS X.K r g) (ha : PE X a (rdZ X.K B m)) (hb : PE X b (rdZ X.K B n)) : PE X (.BinOp a op b pos) (rdZ X.K B (z2 g m n)) := PE.imp (pe_op ho ha hb) (imp2Z hs)
theorem e_op {op : Operator} {a b : Expr} {pos : Pos} {r : R2} {g : D → D → Option D} {m n : ME} (ho : OpR X (binaryOp op) r) (hs : OpS X.K r g) (ha : PE X a (rdE X.K B W m)) (hb : PE X b (rdE X.K B W n)) : PE X (.BinOp a op b pos) (rdE X.K B W (e2 g m n)) := PE.imp (pe_op ho ha hb) (imp2E hs)
theorem z_ix {a b : Expr} {pos : Pos} {r : R2} {g : D → D → Option D} {m n : MZ} (ho : IxR X r) (hs : OpS X.K r g) (ha : PE X a (rdZ X.K B m)) (hb : PE X b (rdZ X.K B n)) (hp : PlainIx b := by exact fun _ _ => rfl) : PE X (.Subscript a b pos) (rdZ X.K B (z2 g m n)) := PE.imp (pe_ix ho ha hb hp) (imp2Z hs)
theorem e_ix {a b : Expr} {pos : Pos} {r : R2} {g : D → D → Option D} {m n : ME} (ho : IxR X r) (hs : OpS X.K r g) (ha : PE X a (rdE X.K B W m)) (hb : PE X b (rdE X.K B W n)) (hp : PlainIx b := by exact fun _ _ => rfl) : PE X (.Subscript a b pos) (rdE X.K B W (e2 g m n)) := PE.imp (pe_ix ho ha hb hp) (imp2E hs)
theorem z_cmp {op : CmpOp} {a b : Expr} {pos : Pos} {r : R2} {g : D → D → Option D} {m n : MZ} (ho : OpR X (compareOp op) r) (hs : OpS X.K r g) (ha : PE X a (rdZ X.K B m)) (hb : PE X b (rdZ X.K B n)) (hm : behindInMarks op b = false := by first | exact nomark _ | rfl) : PE X (.Compare a [op] [b] pos) (rdZ X.K B (z2 g m n)) := PE.imp (pe_cmpR ho ha hb hm) (imp2Z hs)
theorem e_cmp {op : CmpOp} {a b : Expr} {pos : Pos} {r : R2} {g : D → D → Option D} {m n : ME} (ho : OpR X (compareOp op) r) (hs : OpS X.K r g) (ha : PE X a (rdE X.K B W m)) (hb : PE X b (rdE X.K B W n)) (hm : behindInMarks op b = false := by first | exact nomark _ | rfl) : PE X (.Compare a [op] [b] pos) (rdE X.K B W (e2 g m n)) := PE.imp (pe_cmpR ho ha hb hm) (imp2E hs)

/-! ### tests -/
def tE (m : ME) : MT := fun τ => (m τ).bind fun d τ1 => match d with
  | .bl b => .ok b τ1
  | _ => .bad
def tZ (m : MZ) : MT := fun τ => match m τ with
  | some (.bl b) => .ok b τ
  | _ => .bad
theorem impTE {m : ME} (σ : L2.St) (H : Hp) (Q : Bool → Hp → Prop) (h : rdT X.K B W (tE m) σ H Q) : rdE X.K B W m σ H fun x H' => ∃ k, x = .bl k ∧ Q k H' := by
  obtain ⟨F, τ, vs, ds, s, p⟩ := h
  refine ⟨F, τ, vs, ds, s, post_imp (post_bind p) (fun d τ1 q x F1 H1 s1 => ?_) fun _ _ q => q⟩
  cases d with
  | bl b => exact ⟨b, s1.topF rfl, q F1 H1 s1.pop⟩
  | _ => exact False.elim q
theorem impTZ {m : MZ} (σ : L2.St) (H : Hp) (Q : Bool → Hp → Prop) (h : rdT X.K B W (tZ m) σ H Q) : rdZ X.K B m σ H fun x H' => ∃ k, x = .bl k ∧ Q k H' := by
  obtain ⟨F, τ, vs, ds, s, p⟩ := h
  unfold tZ at p
  cases e : m τ with
  | none => rw [e] at p; exact False.elim p
  | some d =>
    rw [e] at p
    cases d with
    | bl b => exact ⟨F, τ, vs, ds, s, _, e, fun v f r => ⟨b, r.1, p F H s⟩⟩
    | _ => exact False.elim p
theorem t_valE {e : Expr} {m : ME} (h : PE X e (rdE X.K B W m)) (he : ∀ whole, isTrue e X.env whole = (do let v ← whole; standAt e.pos; holding [v] (truthy v)) := by intro _; rfl) : PT X e (rdT X.K B W (tE m)) := PT.imp (pt_val h he) impTE
theorem t_cmpZ {op : CmpOp} {a b : Expr} {pos : Pos} {r : R2} {g : D → D → Option D} {m n : MZ} (ho : OpR X (compareOp op) r) (hs : OpS X.K r g) (ha : PE X a (rdZ X.K B m)) (hb : PE X b (rdZ X.K B n)) (hm : behindInMarks op b = false := by first | exact nomark _ | rfl) : PT X (.Compare a [op] [b] pos) (rdT X.K B W (tZ (z2 g m n))) :=
  PT.imp (pt_cmpR ho ha hb hm) fun σ H Q h => imp2Z hs σ H _ (impTZ σ H Q h)
theorem t_cmpE {op : CmpOp} {a b : Expr} {pos : Pos} {r : R2} {g : D → D → Option D} {m n : ME} (ho : OpR X (compareOp op) r) (hs : OpS X.K r g) (ha : PE X a (rdE X.K B W m)) (hb : PE X b (rdE X.K B W n)) (hm : behindInMarks op b = false := by first | exact nomark _ | rfl) : PT X (.Compare a [op] [b] pos) (rdT X.K B W (tE (e2 g m n))) :=
  PT.imp (pt_cmpR ho ha hb hm) fun σ H Q h => imp2E hs σ H _ (impTE σ H Q h)
def tAnd (a b : MT) : MT := fun τ => (a τ).bind fun x τ1 => if x = true then b τ1 else .ok false τ1
def tOr (a b : MT) : MT := fun τ => (a τ).bind fun x τ1 => if x = true then .ok true τ1 else b τ1
def tNot (a : MT) : MT := fun τ => (a τ).bind fun x τ1 => .ok (!x) τ1
theorem t_and1 {a : Expr} {pos : Pos} {m : MT} (ha : PT X a (rdT X.K B W m)) : PW X (.BoolOp .And [a] pos) (rdT X.K B W m) := pw_and1 ha
theorem t_or1 {a : Expr} {pos : Pos} {m : MT} (ha : PT X a (rdT X.K B W m)) : PW X (.BoolOp .Or [a] pos) (rdT X.K B W m) := pw_or1 ha
theorem t_and {a b : Expr} {r : List Expr} {pos : Pos} {m n : MT} (ha : PT X a (rdT X.K B W m)) (hb : PW X (.BoolOp .And (b :: r) pos) (rdT X.K B W n)) : PW X (.BoolOp .And (a :: b :: r) pos) (rdT X.K B W (tAnd m n)) := PW.imp (pw_and ha hb) fun σ H Q h => by
  obtain ⟨F, τ, vs, ds, s, p⟩ := h
  refine ⟨F, τ, vs, ds, s, post_imp (post_bind p) (fun b τ1 q F1 H1 s1 => ?_) fun _ _ q => q⟩
  cases b with
  | true => exact ⟨F1, τ1, vs, ds, s1, q⟩
  | false => exact q F1 H1 s1
theorem t_or {a b : Expr} {r : List Expr} {pos : Pos} {m n : MT} (ha : PT X a (rdT X.K B W m)) (hb : PW X (.BoolOp .Or (b :: r) pos) (rdT X.K B W n)) : PW X (.BoolOp .Or (a :: b :: r) pos) (rdT X.K B W (tOr m n)) := PW.imp (pw_or ha hb) fun σ H Q h => by
  obtain ⟨F, τ, vs, ds, s, p⟩ := h
  refine ⟨F, τ, vs, ds, s, post_imp (post_bind p) (fun b τ1 q F1 H1 s1 => ?_) fun _ _ q => q⟩
  cases b with
  | false => exact ⟨F1, τ1, vs, ds, s1, q⟩
  | true => exact q F1 H1 s1
theorem t_not {a : Expr} {pos : Pos} {m : MT} (ha : PT X a (rdT X.K B W m)) : PT X (.UnaryOp .Not a pos) (rdT X.K B W (tNot m)) := PT.imp (pt_not ha) fun σ H Q h => by
  obtain ⟨F, τ, vs, ds, s, p⟩ := h
  exact ⟨F, τ, vs, ds, s, post_imp (post_bind p) (fun b τ1 q F1 H1 s1 => q F1 H1 s1) fun _ _ q => q⟩
/-- chains a < b < c -/
def zChain (g g' : D → D → Option D) (a b c : MZ) : MZ := fun τ => (a τ).bind fun x => (b τ).bind fun y => (g x y).bind fun z => match z with
  | .bl true => (c τ).bind fun w => g' y w
  | .bl false => some (.bl false)
  | _ => none
/-! ### and, or, not, if as values -/
def eAnd (a b : ME) : ME := fun τ => (a τ).bind fun x τ1 => match x with
  | .bl true => b τ1
  | .bl false => .ok (.bl false) τ1
  | _ => .bad
def eOr (a b : ME) : ME := fun τ => (a τ).bind fun x τ1 => match x with
  | .bl false => b τ1
  | .bl true => .ok (.bl true) τ1
  | _ => .bad
def eNot (a : ME) : ME := fun τ => (a τ).bind fun x τ1 => match x with
  | .bl b => .ok (.bl (!b)) τ1
  | _ => .bad
def eIf (c : MT) (a b : ME) : ME := fun τ => (c τ).bind fun x τ1 => if x = true then a τ1 else b τ1
/-! ### argument lists -/
def aNil : MA := fun τ => .ok [] τ
def aCons (m : ME) (n : MA) : MA := fun τ => (m τ).bind fun d τ1 => (n τ1).bind fun ds τ2 => .ok (d :: ds) τ2
theorem a_nil : PA X [] (rdA X.K B W aNil) := PA.imp pa_nil fun σ H Q ⟨F, τ, vs, ds, s, p⟩ => p [] F H rfl s
theorem a_cons {e : Expr} {es : List Expr} {m : ME} {n : MA} (ha : PE X e (rdE X.K B W m)) (hr : PA X es (rdA X.K B W n)) (hs : starEach (e :: es) X.env = (false, eval e X.env) :: starEach es X.env := by rfl) : PA X (e :: es) (rdA X.K B W (aCons m n)) := PA.imp (pa_cons ha hr hs) fun σ H Q h => by
  obtain ⟨F, τ, vs, ds, s, p⟩ := h
  refine ⟨F, τ, vs, ds, s, post_imp (post_bind p) (fun a τ1 q x F1 H1 s1 => ⟨F1, τ1, _, _, s1, post_imp (post_bind q) (fun es τ2 q us F2 H2 hl s2 => ?_) fun c τ2 q F2 H2 s2 => q F2 H2 s2.pop⟩) fun _ _ q => q⟩
  exact q (x :: us) F2 H2 (by rw [List.length_cons, List.length_cons, hl]) (s2.swap hl)
/-- with values that are only looked at -/
def rdZA (K : PySem.W.Frag) (B : Bx) (m : Env → Option (List D)) : TA := fun σ H Q => ∃ F τ vs ds, StT K B F H σ τ vs ds ∧ ∃ es, m τ = some es ∧ ∀ us f, RepOs K B.ca F H es us f → Q us H
def zaNil : Env → Option (List D) := fun _ => some []
def zaCons (m : MZ) (n : Env → Option (List D)) : Env → Option (List D) := fun τ => (m τ).bind fun d => (n τ).bind fun ds => some (d :: ds)
theorem za_nil : PA X [] (rdZA X.K B zaNil) := PA.imp pa_nil fun σ H Q ⟨F, τ, vs, ds, s, es, e, k⟩ => by
  cases (show some [] = some es from e)
  exact k [] (fun _ => 0) ⟨rfl, fun _ => rfl⟩
theorem za_cons {e : Expr} {es : List Expr} {m : MZ} {n : Env → Option (List D)} (ha : PE X e (rdZ X.K B m)) (hr : PA X es (rdZA X.K B n)) (hs : starEach (e :: es) X.env = (false, eval e X.env) :: starEach es X.env := by rfl) : PA X (e :: es) (rdZA X.K B (zaCons m n)) := PA.imp (pa_cons ha hr hs) fun σ H Q h => by
  obtain ⟨F, τ, vs, ds, s, es, e, k⟩ := h
  obtain ⟨a, ea, e⟩ := bind_some e
  obtain ⟨bs, eb, e⟩ := bind_some e
  cases (show some (a :: bs) = some es from e)
  exact ⟨F, τ, vs, ds, s, a, ea, fun x f1 hx => ⟨F, τ, vs, ds, s, bs, eb, fun us f2 hu => k (x :: us) (fun b => f1 b + f2 b) ⟨x, us, f1, f2, rfl, hx, hu, fun _ => rfl⟩⟩⟩
def zC' (g : List D → Option D) (m : Env → Option (List D)) : MZ := fun τ => (m τ).bind g
theorem impCZ {r : List V → Hp → VK → Prop} {g : List D → Option D} {m : Env → Option (List D)} (hs : CallS X.K r g) (σ : L2.St) (H : Hp) (Q : VK) (h : rdZ X.K B (zC' g m) σ H Q) : tCB r (rdZA X.K B m) σ H Q := by
  obtain ⟨F, τ, vs, ds, s, d, e, k⟩ := h
  obtain ⟨a, ea, e⟩ := bind_some e
  exact ⟨F, τ, vs, ds, s, a, ea, fun us f hu => hs _ _ _ _ _ _ _ _ s.same hu e k⟩
theorem impCE {r : List V → Hp → VK → Prop} {g : List D → Option D} {m : MA} (hs : CallS X.K r g) (σ : L2.St) (H : Hp) (Q : VK) (h : rdE X.K B W (eC g m) σ H Q) : tCB r (rdA X.K B W m) σ H Q := by
  obtain ⟨F, τ, vs, ds, s, p⟩ := h
  refine ⟨F, τ, vs, ds, s, post_imp (post_bind p) (fun es τ1 q us F1 H1 hl s1 => ?_) fun _ _ q => q⟩
  obtain ⟨d, e, z, q⟩ := post_ofO q
  obtain ⟨f1, hu⟩ := s1.tops hl
  exact hs _ _ _ _ _ _ _ _ s1.same hu e fun v f hv => q v F1 H1 ((s1.pops hl).push ((repO_fz z).mp hv).1)
section
variable {x : Str} {p pos : Pos} {e : Expr} {es : List Expr} {id T : String} {r : List V → Hp → VK → Prop} {g : List D → Option D}
theorem z_callB {m : Env → Option (List D)} (hc : CallR X (.builtin id) r) (hs : CallS X.K r g) (hg : Gl X x) (hm : X.mg x = none) (hv : bootBuiltins x = some (.builtin id)) (ha : PA X (e :: es) (rdZA X.K B m)) (hn : x ≠ "__name__" := by decide) (hdb : (x == ("__debug__" : Str)) = false := by decide)
    (he : starEach (e :: es) X.env = (false, eval e X.env) :: starEach es X.env := by rfl) (hpl : (backTo pos (starEach es X.env)).any (·.1) = false := by rfl) : PE X (.Call (.Name x p) (e :: es) [] pos) (rdZ X.K B (zC' g m)) := PE.imp (pe_callB hc hg hm hv ha hn hdb he hpl) (impCZ hs)
theorem e_callB {m : MA} (hc : CallR X (.builtin id) r) (hs : CallS X.K r g) (hg : Gl X x) (hm : X.mg x = none) (hv : bootBuiltins x = some (.builtin id)) (ha : PA X (e :: es) (rdA X.K B W m)) (hn : x ≠ "__name__" := by decide) (hdb : (x == ("__debug__" : Str)) = false := by decide)
    (he : starEach (e :: es) X.env = (false, eval e X.env) :: starEach es X.env := by rfl) (hpl : (backTo pos (starEach es X.env)).any (·.1) = false := by rfl) : PE X (.Call (.Name x p) (e :: es) [] pos) (rdE X.K B W (eC g m)) := PE.imp (pe_callB hc hg hm hv ha hn hdb he hpl) (impCE hs)
end

/-! ### displays -/
def eTup (m : MA) : ME := fun τ => (m τ).bind fun ds τ1 => if ds.length ≤ 1000000 then .ok (.tup (freezeL ds)) τ1 else .bad
def eLst (m : MA) : ME := fun τ => (m τ).bind fun ds τ1 => if ds.length ≤ 1000000 then .ok (.lst true ds) τ1 else .bad
theorem le_sizeLine {n : Nat} (h : n ≤ 1000000) : n ≤ sizeLine := by rw [sizeLine_eq]; omega
theorem e_tup {es : List Expr} {k : Nat} {pos : Pos} {m : MA} (h : PA X es (rdA X.K B W m)) : PE X (.Tuple es k pos) (rdE X.K B W (eTup m)) := PE.imp (pe_tup h) fun σ H Q h => by
  obtain ⟨F, τ, vs, ds, s, p⟩ := h
  refine ⟨F, τ, vs, ds, s, post_imp (post_bind p) (fun es τ1 q us F1 H1 hl s1 => ?_) fun _ _ q => q⟩
  by_cases z : es.length ≤ 1000000
  · simp only [z, if_true] at q
    refine ⟨le_sizeLine (hl ▸ z), fun p hp => ?_⟩
    obtain ⟨F2, sm, rl, s2⟩ := s1.freeze hl
    exact q _ _ _ (s2.newTup hp rl)
  · simp only [z] at q; exact False.elim q
theorem e_lst {es : List Expr} {pos : Pos} {m : MA} (h : PA X es (rdA X.K B W m)) : PE X (.List es pos) (rdE X.K B W (eLst m)) := PE.imp (pe_lst h) fun σ H Q h => by
  obtain ⟨F, τ, vs, ds, s, p⟩ := h
  refine ⟨F, τ, vs, ds, s, post_imp (post_bind p) (fun es τ1 q us F1 H1 hl s1 => ?_) fun _ _ q => q⟩
  by_cases z : es.length ≤ 1000000
  · simp only [z, if_true] at q
    exact ⟨le_sizeLine (hl ▸ z), fun p hp => q _ _ _ (s1.newLst hl hp)⟩
  · simp only [z] at q; exact False.elim q
end
end Bn

/-! Calls, statements, loops, try, comprehensions; a def by its function. -/
namespace Bn
open PySem PySem.Spec PyProof.Rows L2

structure XOk (X : Cx) (W : WX) : Prop where
  tk : Takes X W
  hp : PassesOwn (model X.prog X.w) X.A X.env X.xe
  calm : X.calm = true
abbrev W0 : WX := fun _ _ _ _ => False

/-! ### calls -/
def spP (K : PySem.W.Frag) (ca : Str → Addr) (g : List D → CR) : Sp := fun vs H Q E => ∃ F ds, Same F H ∧ RepL K ca F ds vs ∧
  match g ds with
  | .ok d => ∀ v F' H' f, Same F F' → Same F' H' → Same H H' → RepO K ca F' H' d v f → (∀ a, f a ≤ 1) → (∀ a, 0 < f a → F' a = none ∧ H a = none) → (∀ a, F' a ≠ none → F a ≠ none ∨ H a = none) → Q v H'
  | .ex c => ∀ H', Same H H' → E (.ref (ca c)) none H'
  | .bad => False
structure Fo (P : Program) (w : World) (K : PySem.W.Frag) (mg : Str → Option Value) (base : Heap) (ca : Str → Addr) (k : Nat) (x : Str) (g : List D → CR) : Prop where
  ex : ∃ f fd ps, mg x = some (.ref f) ∧ PySem.W.keepIn K (.ref f) = true ∧ Binds K fd ps [] ∧ FnOk P w K mg base (L2.CX P w) k f fd ps (spP K ca g)
def ofC (r : CR) (τ : Env) : R D := match r with
  | .ok d => .ok d τ
  | .ex c => .ex c τ
  | .bad => .bad
def eCall (g : List D → CR) (m : MA) : ME := fun τ => (m τ).bind fun ds τ1 => ofC (g (freezeL ds)) τ1
def eCall0 (g : List D → CR) : ME := fun τ => match g [] with
  | .ok d => .ok d τ
  | _ => .bad
section
variable {X : Cx} {B : Bx} {W : WX}
theorem e_call {x : Str} {p pos : Pos} {e : Expr} {es : List Expr} {m : MA} {g : List D → CR} {k j : Nat} (c : XOk X W) (G : Fo X.prog X.w X.K X.mg X.base B.ca k x g) (hr : Room j X.A) (hg : Gl X x) (ha : PA X (e :: es) (rdA X.K B W m)) (hk : k ≤ j := by decide) (hdb : (x == ("__debug__" : Str)) = false := by decide)
    (he : starEach (e :: es) X.env = (false, eval e X.env) :: starEach es X.env := by rfl) (hpl : (backTo pos (starEach es X.env)).any (·.1) = false := by rfl) : PE X (.Call (.Name x p) (e :: es) [] pos) (rdE X.K B W (eCall g m)) := by
  obtain ⟨f, fd, ps, h1, h2, h3, h4⟩ := G.ex
  refine PE.imp (pe_callS h4 (hr.mono hk) hg h1 h2 h3 (fun σ => passAt c.tk σ) ha hdb he hpl) fun σ H Q h => ?_
  obtain ⟨F, τ, vs, ds, s, p⟩ := h
  refine ⟨F, τ, vs, ds, s, post_imp (post_bind p) (fun as τ1 q us F1 H1 hl s1 => ?_) fun _ _ q => q⟩
  obtain ⟨F2, sm, rl, s2⟩ := s1.freeze hl
  refine ⟨F2, freezeL as, s2.same, rl, ?_⟩
  cases eg : g (freezeL as) with
  | ok d => rw [eg] at q; exact fun v F' H' f k1 k2 k3 k4 k5 k6 k7 => q v F' H' (s2.called k1 k2 k3 k4 k5 k6 k7)
  | ex c => rw [eg] at q; exact fun H' k1 => q F2 H' (s2.grown k1)
  | bad => rw [eg] at q; exact q
/-! ### statements -/
def R.s {α : Type} : R α → (α → Env → SR) → SR
  | .ok a τ, k => k a τ
  | .ex c τ, _ => .ex c τ
  | .bad, _ => .bad
theorem post_s {α : Type} {K : PySem.W.Frag} {vs : List V} {ds : List D} {D' : Ends} {r : R α} {k : α → Env → SR} {σ : L2.St} (h : postS K B W vs ds D' (r.s k)) : post (fun a τ => postS K B W vs ds D' (k a τ)) (exW K B W σ vs ds) r := by
  cases r with
  | ok a τ => exact h
  | ex c τ => exact fun F H s => h σ F H s
  | bad => exact h
def sSeq (s r : MS) : MS := fun τ => match s τ with
  | .nx τ' => r τ'
  | .rt d τ' => .rt d τ'
  | .bk τ' => .bk τ'
  | .ct τ' => .ct τ'
  | .ex c τ' => .ex c τ'
  | .bad => .bad
def sNil : MS := fun τ => .nx τ
theorem s_nil : PSs X [] (rdS X.K B W sNil) := PSs.imp pss_nil fun D σ H ⟨F, τ, vs, ds, s, p⟩ => p σ F H s
theorem s_one {st : Stmt} {m : MS} (h : PS X st (rdS X.K B W m)) : PSs X [st] (rdS X.K B W m) := pss_one h
theorem s_cons {st : Stmt} {r : List Stmt} {m n : MS} (h : PS X st (rdS X.K B W m)) (hr : PSs X r (rdS X.K B W n)) : PSs X (st :: r) (rdS X.K B W (sSeq m n)) := PSs.imp (pss_cons h hr) fun D σ H ⟨F, τ, vs, ds, s, p⟩ => by
  refine ⟨F, τ, vs, ds, s, ?_⟩
  unfold sSeq at p
  cases e : m τ with
  | nx τ' => rw [e] at p; exact fun σ' F' H' s' => ⟨F', τ', vs, ds, s', p⟩
  | _ => rw [e] at p; exact p
def sRet (m : ME) : MS := fun τ => (m τ).s fun d τ1 => .rt d τ1
theorem s_ret {e : Expr} {pos : Pos} {m : ME} (h : PE X e (rdE X.K B W m)) : PS X (.Return (some e) pos) (rdS X.K B W (sRet m)) := PS.imp (ps_ret h) fun D σ H ⟨F, τ, vs, ds, s, p⟩ =>
  ⟨F, τ, vs, ds, s, post_imp (post_s (σ := σ) p) (fun d τ1 q v F1 H1 s1 => q v σ F1 H1 s1) fun _ _ q => q⟩
def sRetN : MS := fun τ => .rt .non τ
def sDrop (m : ME) : MS := fun τ => (m τ).s fun _ τ1 => .nx τ1
def sBk : MS := fun τ => .bk τ
def sCt : MS := fun τ => .ct τ
theorem s_continue {pos : Pos} : PS X (.Continue pos) (rdS X.K B W sCt) := PS.imp ps_continue fun D σ H ⟨F, τ, vs, ds, s, p⟩ => p σ F H s
def sIf (c : MT) (a b : MS) : MS := fun τ => (c τ).s fun x τ1 => if x = true then a τ1 else b τ1
theorem s_if {c : Expr} {a b : List Stmt} {pos : Pos} {t : MT} {m n : MS} (hc : PT X c (rdT X.K B W t)) (ha : PSs X a (rdS X.K B W m)) (hb : PSs X b (rdS X.K B W n)) : PS X (.If c a b pos) (rdS X.K B W (sIf t m n)) := PS.imp (ps_if hc ha hb) fun D σ H ⟨F, τ, vs, ds, s, p⟩ => by
  refine ⟨F, τ, vs, ds, s, post_imp (post_s (σ := σ) p) (fun x τ1 q F1 H1 s1 => ?_) fun _ _ q => q⟩
  cases x with
  | true => exact ⟨F1, τ1, vs, ds, s1, q⟩
  | false => exact ⟨F1, τ1, vs, ds, s1, q⟩

/-! ### targets -/
def gN (i : Nat) : D → Env → Option Env := fun d τ => some (τ.set i (some d))
theorem StT.put' {K : PySem.W.Frag} {F H : Hp} {σ : L2.St} {τ : Env} {vs : List V} {ds : List D} {v : V} {d : D} {i : Nat} (s : StT K B F H σ τ (v :: vs) (d :: ds)) (hf : ioFree B i) : StT K B F H (σ.set i (some v)) (τ.set i (some d)) vs ds := by
  by_cases h : i < τ.length
  · exact s.put h hf
  · have hl : σ.length = τ.length := by obtain ⟨f1, f2, a, _⟩ := s; exact a.length
    rw [List.set_eq_of_length_le (by omega), List.set_eq_of_length_le (by omega)]
    exact s.pop
theorem g_name {i : Nat} {x : Str} {pos : Pos} (hN : X.N.Nodup) (hi : X.N[i]? = some x) (hx : Loc X.env.scope x) (hio : ioFree B i := by first | (intro p hp; cases hp; done) | (intro p hp; simp only [List.mem_cons, List.not_mem_nil, or_false] at hp; rcases hp with rfl | rfl <;> simp) | (intro p hp; simp only [List.mem_cons, List.not_mem_nil, or_false] at hp; rcases hp with rfl | rfl | rfl <;> simp) | (intro p hp; simp only [List.mem_cons, List.not_mem_nil, or_false] at hp; subst hp; simp)) (hf : X.fn x = true ∨ X.env.scope.names.lookup x = some .local := by first | exact .inl rfl | exact .inr rfl | assumption) : PG X (.Name x pos) (rdG X.K B [i] (gN i)) :=
  PG.imp (pg_name hN hi hx hf) fun v σ H Q ⟨F, τ, vs, ds, d, s, τ', e, k⟩ => by
    cases (show some (τ.set i (some d)) = some τ' from e)
    refine k _ F H (s.put' hio) (by rw [List.length_set]) fun j hj => ?_
    rw [List.getElem?_set_ne]
    exact fun e => hj (by simp [e])
def gNil' : List D → Env → Option Env := fun ds τ => match ds with
  | [] => some τ
  | _ => none
def gCons' (g : D → Env → Option Env) (h : List D → Env → Option Env) : List D → Env → Option Env := fun ds τ => match ds with
  | d :: r => (g d τ).bind (h r)
  | [] => none
def gT (n : Nat) (g : List D → Env → Option Env) : D → Env → Option Env := fun d τ => match d with
  | .tup es => if es.length = n then g es τ else none
  | _ => none
theorem gs_nil : PGs X [] (rdGs X.K B [] gNil') := PGs.imp pgs_nil fun ws σ H Q ⟨F, τ, vs, ds, es, hl, s, τ', e, k⟩ => by
  cases es with
  | nil =>
    cases (show some τ = some τ' from e)
    have : ws = [] := List.eq_nil_of_length_eq_zero hl
    subst this
    exact ⟨rfl, k σ F H s rfl fun _ _ => rfl⟩
  | cons a b => cases e
theorem gs_cons {e : Expr} {es : List Expr} {sl sl' : List Nat} {g : D → Env → Option Env} {h : List D → Env → Option Env} (h1 : PG X e (rdG X.K B sl g)) (h2 : PGs X es (rdGs X.K B sl' h))
    (hs : (assignEach (e :: es) X.env).map (·.2) = assign e X.env :: (assignEach es X.env).map (·.2) := by rfl) : PGs X (e :: es) (rdGs X.K B (sl ++ sl') (gCons' g h)) := PGs.imp (pgs_cons h1 h2 hs) fun ws σ H Q ⟨F, τ, vs, ds, es, hl, s, τ', e, k⟩ => by
  cases es with
  | nil => cases e
  | cons d r =>
    obtain ⟨τ1, e1, e⟩ := bind_some e
    cases ws with
    | nil => cases hl
    | cons v ws =>
      refine ⟨v, ws, rfl, F, τ, ws ++ vs, r ++ ds, d, s, τ1, e1, fun σ1 F1 H1 s1 l1 k1 => ⟨F1, τ1, vs, ds, r, by simpa using hl, s1, τ', e, fun σ2 F2 H2 s2 l2 k2 => k σ2 F2 H2 s2 (l2.trans l1) fun j hj => ?_⟩⟩
      rw [k2 j fun z => hj (List.mem_append_right _ z), k1 j fun z => hj (List.mem_append_left _ z)]
theorem g_tup {es : List Expr} {k : Nat} {pos : Pos} {sl : List Nat} {g : List D → Env → Option Env} {n : Nat} (hc : X.calm = true) (h : PGs X es (rdGs X.K B sl g)) (hn : (assignEach es X.env).length = n := by rfl) (hst : (assignEach es X.env).findIdx? (·.1) = none := by rfl) : PG X (.Tuple es k pos) (rdG X.K B sl (gT n g)) :=
  PG.imp (pg_tup hc h hn hst) fun v σ H Q ⟨F, τ, vs, ds, d, s, τ', e, k⟩ => by
    cases d with
    | tup xs =>
      obtain ⟨a, us, e1, h1, h2⟩ := s.topF rfl
      subst e1
      by_cases hl : xs.length = n
      · have e' : g xs τ = some τ' := by
          have e' : (if xs.length = n then g xs τ else none) = some τ' := e
          rw [if_pos hl] at e'; exact e'
        have hul := h2.length
        refine ⟨a, us, rfl, sqT_same s.same h1, hul.trans hl, F, τ, vs, ds, xs, hul, ?_, τ', e', k⟩
        obtain ⟨f1, f2, A, b, w, io⟩ := s.pop
        have b2 := (h2.os (H := H)).append b
        have e3 : (fun b => 0 + f2 b) = f2 := funext fun b => by omega
        rw [e3] at b2
        exact ⟨f1, f2, A, b2, w, io⟩
      · have e' : (if xs.length = n then g xs τ else none) = some τ' := e
        rw [if_neg hl] at e'; cases e'
    | _ => cases e
def sAsg (m : ME) (g : D → Env → Option Env) : MS := fun τ => (m τ).s fun d τ1 => match g d τ1 with
  | some τ2 => .nx τ2
  | none => .bad
theorem s_set {i : Nat} {x : Str} {e : Expr} {pos pos' : Pos} {m : ME} (hN : X.N.Nodup) (hi : X.N[i]? = some x) (hx : Loc X.env.scope x) (he : PE X e (rdE X.K B W m)) (hio : ioFree B i := by first | (intro p hp; cases hp; done) | (intro p hp; simp only [List.mem_cons, List.not_mem_nil, or_false] at hp; rcases hp with rfl | rfl <;> simp) | (intro p hp; simp only [List.mem_cons, List.not_mem_nil, or_false] at hp; rcases hp with rfl | rfl | rfl <;> simp) | (intro p hp; simp only [List.mem_cons, List.not_mem_nil, or_false] at hp; subst hp; simp)) (hs : swapsWith e (some (.Name x pos')) pos.line X.env = pure false := by rfl)
    (hf : X.fn x = true ∨ X.env.scope.names.lookup x = some .local := by first | exact .inl rfl | exact .inr rfl | assumption) : PS X (.Assign [.Name x pos'] e pos) (rdS X.K B W (sAsg m (gN i))) := PS.imp (ps_set hN hi hx he hs hf) fun D σ H ⟨F, τ, vs, ds, s, p⟩ =>
  ⟨F, τ, vs, ds, s, post_imp (post_s (σ := σ) p) (fun d τ1 q v F1 H1 s1 => q _ F1 H1 (s1.put' hio)) fun _ _ q => q⟩

/-! ### raise, try -/
structure Ec (K : PySem.W.Frag) (mg : Str → Option Value) (ca : Str → Addr) (x : Str) : Prop where
  g : mg x = some (.ref (ca x))
  k : PySem.W.keepIn K (.ref (ca x)) = true
  q : PySem.W.excIn K (ca x) [.type "ValueError", .type "Exception", .type "BaseException", .type "object"] "ValueError.__new__" = true
  b : PySem.W.subIn K (.ref (ca x)) (.type "BaseException") = some true
  t : PySem.W.typeIn K (.ref (ca x)) = some (.type "type")
def sRaise (x : Str) : MS := fun τ => .ex x τ
def noEx (r : SR) : SR := match r with
  | .ex _ _ => .bad
  | r => r
def sTry (sub : Str → Option Bool) (b su : MS) : MS := fun τ => match b τ with
  | .ex c τ' => (match sub c with
    | some true => noEx (su τ')
    | some false => .ex c τ'
    | none => .bad)
  | .nx τ' => .nx τ'
  | .rt d τ' => .rt d τ'
  | .bk τ' => .bk τ'
  | .ct τ' => .ct τ'
  | .bad => .bad
/-! ### what is walked -/
theorem sqOf {K : PySem.W.Frag} {H : Hp} {a : Addr} {xs : List V} (h : H a = some (.lst xs)) : SqL K H a xs := .inl (.inl h)
structure ItOk (K : PySem.W.Frag) (B : Bx) (J : It) (items : List D) (tv : List V) (td : List D) : Prop where
  go : ∀ i F H σ τ, StT K B F H σ τ tv td → i < items.length → J.go i H
  st : ∀ F H σ τ, StT K B F H σ τ tv td → J.stop items.length H
  y : ∀ i d F H σ τ x H' us es, us.length = es.length → items[i]? = some d → StT K B F H σ τ (us ++ tv) (es ++ td) → J.yld i H x H' → ∃ F', StT K B F' H' σ τ (x :: (us ++ tv)) (d :: (es ++ td))
def rdI (K : PySem.W.Frag) (B : Bx) (W : WX) (m : MA) : TI := fun σ H R => ∃ F τ vs ds, StT K B F H σ τ vs ds ∧ post (fun items τ1 => ∀ J us es F' H', us.length = es.length → StT K B F' H' σ τ1 (us ++ vs) (es ++ ds) → ItOk K B J items (us ++ vs) (es ++ ds) → R J H') (exW K B W σ vs ds) (m τ)
theorem PI.imp {tg it : Expr} {t t' : TI} (h : PI X tg it t) (k : ∀ σ H R, t' σ H R → t σ H R) : PI X tg it t' := ⟨fun p s σ H R I q => h.run p s σ H R I (k _ _ _ q)⟩
def iL (m : ME) : MA := fun τ => (m τ).bind fun d τ1 => match freeze d with
  | .lst _ es => .ok es τ1
  | _ => .bad
theorem freeze_fz : ∀ d : D, isFz (freeze d) = true
  | .lst true _ => rfl | .lst false _ => rfl | .obj true _ _ _ => rfl | .obj false _ _ _ => rfl
  | .non => rfl | .bl _ => rfl | .int _ => rfl | .str _ => rfl | .ty _ => rfl | .tup _ => rfl | .cst _ => rfl | .val _ => rfl | .tpo _ => rfl | .dct true _ _ => rfl | .dct false _ _ => rfl
theorem StT.freeze1 {K : PySem.W.Frag} {F H : Hp} {σ : L2.St} {τ : Env} {vs : List V} {ds : List D} {v : V} {d : D} (s : StT K B F H σ τ (v :: vs) (d :: ds)) : ∃ F', StT K B F' H σ τ (v :: vs) (Bn.freeze d :: ds) := by
  obtain ⟨F2, sm, ⟨_, _, e2, r, _⟩, s2⟩ := StT.freeze (us := [v]) (es := [d]) s rfl
  cases e2
  exact ⟨F2, s2.push r⟩
theorem itOk_list {K : PySem.W.Frag} {a : Addr} {es : List D} {vs : List V} {ds : List D} : ItOk K B (Itl K a) es (.ref a :: vs) (.lst false es :: ds) := by
  have look : ∀ {F H σ τ}, StT K B F H σ τ (.ref a :: vs) (.lst false es :: ds) → ∃ us, SqL K H a us ∧ RepL K B.ca F es us := fun {F H σ τ} s => by
    obtain ⟨a', us, e, h1, h2⟩ := s.topF rfl
    cases e
    exact ⟨us, sqOf (s.same _ _ h1), h2⟩
  refine ⟨fun i F H σ τ s hi => ?_, fun F H σ τ s => ?_, fun i d F H σ τ x H' us' es' hl hd s y => ?_⟩
  · obtain ⟨us, h1, h2⟩ := look s
    exact ⟨us, us[i]'(by rw [h2.length]; exact hi), h1, by simp [h2.length, hi]⟩
  · obtain ⟨us, h1, h2⟩ := look s
    exact ⟨us, h1, by rw [h2.length]; exact Nat.le_refl _⟩
  · obtain ⟨rfl, y⟩ := y
    obtain ⟨us, h1, h2⟩ := look (s.pops hl)
    obtain ⟨v, e, r⟩ := h2.get hd
    rw [y us h1] at e; cases e
    exact ⟨F, s.push r⟩
def enumD : Nat → List D → List D
  | _, [] => []
  | i, d :: ds => .tup [.int (i : Nat), d] :: enumD (i + 1) ds
theorem enumD_len : ∀ (i : Nat) (ds : List D), (enumD i ds).length = ds.length
  | _, [] => rfl
  | i, d :: ds => by show (enumD (i + 1) ds).length + 1 = ds.length + 1; rw [enumD_len]
theorem enumD_get : ∀ (i j : Nat) (ds : List D), (enumD i ds)[j]? = ds[j]?.map fun d => .tup [.int ((i + j : Nat) : Int), d]
  | _, j, [] => by simp [enumD]
  | i, 0, d :: ds => by simp [enumD]
  | i, j + 1, d :: ds => by
    show (enumD (i + 1) ds)[j]? = _
    rw [enumD_get (i + 1) j ds]
    simp [Nat.add_assoc, Nat.add_comm 1 j]
theorem itOk_enum {K : PySem.W.Frag} {a : Addr} {es : List D} {vs : List V} {ds : List D} : ItOk K B (Ite K a) (enumD 0 es) (.ref a :: vs) (.lst false es :: ds) := by
  have look : ∀ {F H σ τ}, StT K B F H σ τ (.ref a :: vs) (.lst false es :: ds) → ∃ us, SqL K H a us ∧ RepL K B.ca F es us := fun {F H σ τ} s => by
    obtain ⟨a', us, e, h1, h2⟩ := s.topF rfl
    cases e
    exact ⟨us, sqOf (s.same _ _ h1), h2⟩
  refine ⟨fun i F H σ τ s hi => ?_, fun F H σ τ s => ?_, fun i d F H σ τ x H' us' es' hl hd s y => ?_⟩
  · obtain ⟨us, h1, h2⟩ := look s
    rw [enumD_len] at hi
    exact ⟨us, us[i]'(by rw [h2.length]; exact hi), h1, by simp [h2.length, hi]⟩
  · obtain ⟨us, h1, h2⟩ := look s
    exact ⟨us, h1, by rw [enumD_len, h2.length]; exact Nat.le_refl _⟩
  · obtain ⟨T, x', rfl, hT, rfl, y⟩ := y
    obtain ⟨us, h1, h2⟩ := look (s.pops hl)
    rw [enumD_get] at hd
    cases e : es[i]? with
    | none => rw [e] at hd; cases hd
    | some d' =>
      rw [e] at hd
      obtain ⟨v, ev, r⟩ := h2.get e
      rw [y us h1] at ev; cases ev
      have hd' : D.tup [.int ((0 + i : Nat) : Int), d'] = d := Option.some.inj hd
      subst hd'
      rw [Nat.zero_add]
      exact ⟨_, s.newTup hT ⟨.int (i : Nat), [x'], rfl, rfl, x', [], rfl, r, rfl⟩⟩
def zipD : List D → List D → List D
  | x :: xs, y :: ys => .tup [x, y] :: zipD xs ys
  | _, _ => []
theorem zipD_len : ∀ xs ys : List D, (zipD xs ys).length = min xs.length ys.length
  | [], ys => by simp [zipD]
  | x :: xs, [] => by simp [zipD]
  | x :: xs, y :: ys => by
    show (zipD xs ys).length + 1 = min (xs.length + 1) (ys.length + 1)
    rw [zipD_len]; omega
theorem zipD_get : ∀ (i : Nat) (xs ys : List D) (d : D), (zipD xs ys)[i]? = some d → ∃ x y, xs[i]? = some x ∧ ys[i]? = some y ∧ d = .tup [x, y]
  | _, [], ys, d, h => by simp [zipD] at h
  | _, x :: xs, [], d, h => by simp [zipD] at h
  | 0, x :: xs, y :: ys, d, h => ⟨x, y, rfl, rfl, (Option.some.inj h).symm⟩
  | i + 1, x :: xs, y :: ys, d, h => by simpa using zipD_get i xs ys d h
theorem itOk_zip {K : PySem.W.Frag} {a b : Addr} {es fs : List D} {vs : List V} {ds : List D} : ItOk K B (Itz K a b) (zipD es fs) (.ref b :: .ref a :: vs) (.lst false fs :: .lst false es :: ds) := by
  have look : ∀ {F H σ τ}, StT K B F H σ τ (.ref b :: .ref a :: vs) (.lst false fs :: .lst false es :: ds) → ∃ us ws, SqL K H a us ∧ RepL K B.ca F es us ∧ SqL K H b ws ∧ RepL K B.ca F fs ws := fun {F H σ τ} s => by
    obtain ⟨a', us, e, h1, h2⟩ := s.topF rfl
    obtain ⟨a'', ws, e', h1', h2'⟩ := s.pop.topF rfl
    cases e; cases e'
    exact ⟨ws, us, sqOf (s.same _ _ h1'), h2', sqOf (s.same _ _ h1), h2⟩
  refine ⟨fun i F H σ τ s hi => ?_, fun F H σ τ s => ?_, fun i d F H σ τ x H' us' es' hl hd s y => ?_⟩
  · obtain ⟨us, ws, h1, h2, h3, h4⟩ := look s
    rw [zipD_len] at hi
    have i1 : i < us.length := by rw [h2.length]; omega
    have i2 : i < ws.length := by rw [h4.length]; omega
    exact ⟨us, ws, us[i], ws[i], h1, h3, by simp [i1], by simp [i2]⟩
  · obtain ⟨us, ws, h1, h2, h3, h4⟩ := look s
    refine ⟨us, ws, h1, h3, ?_⟩
    rw [zipD_len, h2.length, h4.length]; omega
  · obtain ⟨T, x', y', rfl, hT, rfl, y1, y2⟩ := y
    obtain ⟨us, ws, h1, h2, h3, h4⟩ := look (s.pops hl)
    obtain ⟨d1, d2, g1, g2, rfl⟩ := zipD_get i es fs d hd
    obtain ⟨v1, k1, r1⟩ := h2.get g1
    obtain ⟨v2, k2, r2⟩ := h4.get g2
    rw [y1 us h1] at k1; cases k1
    rw [y2 ws h3] at k2; cases k2
    exact ⟨_, s.newTup hT ⟨x', [y'], rfl, r1, y', [], rfl, r2, rfl⟩⟩
def rangeD (lo : Int) (n : Nat) : List D := (List.range n).map fun k => D.int (lo + (k : Nat))
theorem itOk_range {K : PySem.W.Frag} {lo : Int} {n : Nat} {vs : List V} {ds : List D} : ItOk K B (Itr lo n) (rangeD lo n) vs ds := by
  refine ⟨fun i F H σ τ s hi => ?_, fun F H σ τ s => ?_, fun i d F H σ τ x H' us' es' hl hd s y => ?_⟩
  · show i < n; simpa [rangeD] using hi
  · show n ≤ (rangeD lo n).length; simp [rangeD]
  · obtain ⟨rfl, rfl⟩ := y
    have hi : i < n := by simpa [rangeD] using (List.getElem?_eq_some_iff.mp hd).1
    have e : d = .int (lo + (i : Nat)) := by
      unfold rangeD at hd
      rw [List.getElem?_map, List.getElem?_range hi] at hd
      exact (Option.some.inj hd).symm
    subst e
    exact ⟨F, s.push (d := .int _) rfl⟩
def strD (s : Str) : List D := s.cps.toList.map fun c => D.str ⟨#[c]⟩
theorem i_list {tg l : Expr} {m : ME} (hl : PE X l (rdE X.K B W m)) : PI X tg l (rdI X.K B W (iL m)) := PI.imp (pi_list hl) fun σ H R ⟨F, τ, vs, ds, s, p⟩ => by
  refine ⟨F, τ, vs, ds, s, post_imp (post_bind p) (fun d τ1 q v F1 H1 s1 => ?_) fun _ _ q => q⟩
  obtain ⟨F2, s2⟩ := s1.freeze1
  have hz := freeze_fz d
  cases e : freeze d with
  | lst m es =>
    cases m with
    | true => rw [e] at hz; cases hz
    | false =>
      simp only [e] at q
      rw [e] at s2
      obtain ⟨a, us, ev, h1, h2⟩ := s2.topF rfl
      subst ev
      exact ⟨a, rfl, ⟨us, sqOf (s2.same _ _ h1)⟩, q (Itl X.K a) [.ref a] [.lst false es] F2 H1 rfl s2 itOk_list⟩
  | _ => simp only [e] at q; exact False.elim q
def iT (m : ME) : MA := fun τ => (m τ).bind fun d τ1 => match d with
  | .tup es => .ok es τ1
  | _ => .bad
def iS (m : ME) : MA := fun τ => (m τ).bind fun d τ1 => match d with
  | .str z => .ok (strD z) τ1
  | _ => .bad
def iR1 (m : MA) : MA := fun τ => (m τ).bind fun ds τ1 => match ds with
  | [.int j] => if -(2 ^ 62) ≤ j ∧ j < 2 ^ 62 then .ok (rangeD 0 j.toNat) τ1 else .bad
  | _ => .bad
def iR2 (m : MA) : MA := fun τ => (m τ).bind fun ds τ1 => match ds with
  | [.int i, .int j] => if -(2 ^ 62) ≤ i ∧ i < 2 ^ 62 ∧ -(2 ^ 62) ≤ j ∧ j < 2 ^ 62 then .ok (rangeD i (j - i).toNat) τ1 else .bad
  | _ => .bad
theorem i_range1 {tg a : Expr} {p pos : Pos} {m : MA} (hg : Gl X "range") (hm : X.mg "range" = none) (ha : PA X [a] (rdA X.K B W m)) (hs : starEach [a] X.env = [(false, eval a X.env)] := by rfl) : PI X tg (.Call (.Name "range" p) [a] [] pos) (rdI X.K B W (iR1 m)) := PI.imp (pi_range1 hg hm ha hs) fun σ H R ⟨F, τ, vs, ds, s, p⟩ => by
  refine ⟨F, τ, vs, ds, s, post_imp (post_bind p) (fun es τ1 q us F1 H1 hl s1 => ?_) fun _ _ q => q⟩
  have g := s1.pops hl
  match es, q, s1, hl with
  | [.int j], q, s1, hl =>
    match us, s1, hl with
    | [v], s1, _ =>
      cases (show v = .int j from s1.topF rfl)
      by_cases z : -(2 ^ 62) ≤ j ∧ j < 2 ^ 62
      · simp only [z, and_self, if_true] at q
        exact ⟨j, rfl, z.1, z.2, q (Itr 0 j.toNat) [] [] F1 H1 rfl g itOk_range⟩
      · simp only [z, if_false] at q; exact False.elim q
def iE (m : MA) : MA := fun τ => (m τ).bind fun ds τ1 => match freezeL ds with
  | [.lst _ es] => .ok (enumD 0 es) τ1
  | _ => .bad
def iV (m : MA) : MA := fun τ => (m τ).bind fun ds τ1 => match freezeL ds with
  | [.lst _ es] => .ok es.reverse τ1
  | _ => .bad
def iZ (m : MA) : MA := fun τ => (m τ).bind fun ds τ1 => match freezeL ds with
  | [.lst _ es, .lst _ fs] => .ok (zipD es fs) τ1
  | _ => .bad
theorem StT.pushL {K : PySem.W.Frag} {F H : Hp} {σ : L2.St} {τ : Env} {vs us : List V} {ds es : List D} (s : StT K B F H σ τ vs ds) (h : RepL K B.ca F es us) : StT K B F H σ τ (us ++ vs) (es ++ ds) := by
  obtain ⟨f1, f2, A, b, w, io⟩ := s
  have b2 := (h.os (H := H)).append b
  have e3 : (fun b => 0 + f2 b) = f2 := funext fun b => by omega
  rw [e3] at b2
  exact ⟨f1, f2, A, b2, w, io⟩
theorem i_enum {e : Expr} {p pos tpos : Pos} {elts : List Expr} {kk : Nat} {m : MA} (hg : Gl X "enumerate") (hm : X.mg "enumerate" = none) (ha : PA X [e] (rdA X.K B W m)) (hs : starEach [e] X.env = [(false, eval e X.env)] := by rfl) :
    PI X (.Tuple elts kk tpos) (.Call (.Name "enumerate" p) [e] [] pos) (rdI X.K B W (iE m)) := PI.imp (pi_enum hg hm ha hs) fun σ H R ⟨F, τ, vs, ds, s, p⟩ => by
  refine ⟨F, τ, vs, ds, s, post_imp (post_bind p) (fun es τ1 q us F1 H1 hl s1 => ?_) fun _ _ q => q⟩
  obtain ⟨F2, sm, rl, s2⟩ := s1.freeze hl
  match h : freezeL es, q, rl with
  | [.lst b xs], q, rl =>
    obtain ⟨v, r, rfl, r1, r2⟩ := rl
    cases (show r = [] from r2)
    cases b with
    | true => exact r1.elim
    | false =>
      have s3 := s2.push r1
      obtain ⟨a, ws, rfl, h1, h2⟩ := r1
      exact ⟨a, ws, rfl, sqOf (s2.same _ _ h1), q (Ite X.K a) [.ref a] [.lst false xs] F2 H1 rfl s3 itOk_enum⟩
theorem i_zip {e e2 : Expr} {p pos tpos : Pos} {elts : List Expr} {kk : Nat} {m : MA} (hg : Gl X "zip") (hm : X.mg "zip" = none) (ha : PA X [e, e2] (rdA X.K B W m))
    (hs : starEach [e, e2] X.env = (false, eval e X.env) :: starEach [e2] X.env := by rfl) (hpl : (backTo pos (starEach [e2] X.env)).any (·.1) = false := by rfl) :
    PI X (.Tuple elts kk tpos) (.Call (.Name "zip" p) [e, e2] [] pos) (rdI X.K B W (iZ m)) := PI.imp (pi_zip hg hm ha hs hpl) fun σ H R ⟨F, τ, vs, ds, s, p⟩ => by
  refine ⟨F, τ, vs, ds, s, post_imp (post_bind p) (fun es τ1 q us F1 H1 hl s1 => ?_) fun _ _ q => q⟩
  obtain ⟨F2, sm, rl, s2⟩ := s1.freeze hl
  match h : freezeL es, q, rl with
  | [.lst b xs, .lst b2 ys], q, rl =>
    obtain ⟨v, r, rfl, r1, v2, r', rfl, r2, r3⟩ := rl
    cases (show r' = [] from r3)
    cases b with
    | true => exact r1.elim
    | false =>
      cases b2 with
      | true => exact r2.elim
      | false =>
        have s3 := (s2.push r1).push r2
        obtain ⟨a, ws, rfl, h1, h2⟩ := r1
        obtain ⟨a', ws', rfl, h1', h2'⟩ := r2
        exact ⟨a, a', ws, ws', rfl, sqOf (s2.same _ _ h1), sqOf (s2.same _ _ h1'), q (Itz X.K a a') [.ref a', .ref a] [.lst false ys, .lst false xs] F2 H1 rfl s3 itOk_zip⟩
end
end Bn

/-! Loops, comprehensions; a def by its function. -/
namespace Bn
open PySem PySem.Spec PyProof.Rows L2

/-! ### for, while -/
def forL (g : D → Env → Option Env) (b : MS) : List D → Env → SR
  | [], τ => .nx τ
  | d :: r, τ => match g d τ with
    | none => .bad
    | some τ1 => match b τ1 with
      | .nx τ2 => forL g b r τ2
      | .ct τ2 => forL g b r τ2
      | .bk τ2 => .nx τ2
      | .rt d τ2 => .rt d τ2
      | .ex c τ2 => .ex c τ2
      | .bad => .bad
def sFor (m : MA) (g : D → Env → Option Env) (b : MS) : MS := fun τ => (m τ).s fun items τ1 => forL g b items τ1
def whileM (c : MT) (b : MS) : Nat → Env → SR
  | 0, _ => .bad
  | n + 1, τ => match c τ with
    | .ok true τ1 => (match b τ1 with
      | .nx τ2 => whileM c b n τ2
      | .ct τ2 => whileM c b n τ2
      | .bk τ2 => .nx τ2
      | .rt d τ2 => .rt d τ2
      | .ex e τ2 => .ex e τ2
      | .bad => .bad)
    | .ok false τ1 => .nx τ1
    | .ex e τ1 => .ex e τ1
    | .bad => .bad
def sWhile (fuel : Env → Nat) (c : MT) (b : MS) : MS := fun τ => whileM c b (fuel τ) τ
section
variable {X : Cx} {B : Bx} {W : WX}
theorem postS_pops {K : PySem.W.Frag} {us vs : List V} {es ds : List D} {D' : Ends} {r : SR} (hl : us.length = es.length) (h : postS K B W vs ds D' r) : postS K B W (us ++ vs) (es ++ ds) D' r := by
  cases r with
  | nx τ => exact fun σ F H s => h σ F H (s.pops hl)
  | rt d τ => exact fun v σ F H s => h v σ F H (StT.pops (us := us) (es := es) (by
      obtain ⟨f1, f2, A, ⟨v', r', g1, g2, e, b1, b2, q⟩, w, io⟩ := s
      cases e
      obtain ⟨g3, g4, c1, c2, q2⟩ := b2.split' hl
      exact ⟨f1, f2, A, c1.append (us := v :: vs) (es := d :: ds) (g := fun b => g1 b + g4 b) ⟨v, vs, g1, g4, rfl, b1, c2, fun _ => rfl⟩ |> fun z => by
        have e : (fun b => g3 b + (g1 b + g4 b)) = f2 := funext fun b => by rw [q, q2]; omega
        rw [e] at z; exact z, w, io⟩) hl)
  | bk τ => exact fun σ F H s => h σ F H (s.pops hl)
  | ct τ => exact fun σ F H s => h σ F H (s.pops hl)
  | ex c τ => exact fun σ F H s => h σ F H (s.pops hl)
  | bad => exact h
theorem for_core {J : It} {items : List D} {tv : List V} {td : List D} {g : D → Env → Option Env} {sl : List Nat} {b : MS} {K : PySem.W.Frag} {σ : L2.St} {H F : Hp} {τ : Env} {D' : Ends} (ok : ItOk K B J items tv td) (s : StT K B F H σ τ tv td) (p : postS K B W tv td D' (forL g b items τ)) :
    ∃ W' : Nat → Nat → L2.St → Hp → Prop, (∃ m, W' 0 m σ H) ∧ ∀ i m σ H, W' i m σ H → (J.stop i H ∧ D'.nx σ H) ∨ (J.go i H ∧ ∃ N : L2.St → Hp → Prop, (∀ σ' H', N σ' H' → ∃ m', m' < m ∧ W' (i + 1) m' σ' H') ∧
      ∀ x H', J.yld i H x H' → rdG K B sl g x σ H' fun σ2 H2 => rdS K B W b { D' with nx := N, ct := N, bk := D'.nx } σ2 H2) := by
  refine ⟨fun i m σ H => m = items.length - i ∧ i ≤ items.length ∧ ∃ F τ, StT K B F H σ τ tv td ∧ postS K B W tv td D' (forL g b (items.drop i) τ), ⟨_, rfl, Nat.zero_le _, F, τ, s, p⟩, ?_⟩
  rintro i m σ H ⟨rfl, hi, F, τ, s, p⟩
  by_cases h : i < items.length
  · refine .inr ⟨ok.go i F H σ τ s h, fun σ' H' => ∃ F τ, StT K B F H' σ' τ tv td ∧ postS K B W tv td D' (forL g b (items.drop (i + 1)) τ), fun σ' H' ⟨F', τ', s', p'⟩ => ⟨items.length - (i + 1), by omega, rfl, h, F', τ', s', p'⟩, fun x H' y => ?_⟩
    have e : items[i]? = some items[i] := by simp [h]
    obtain ⟨F', s'⟩ := ok.y i _ F H σ τ x H' [] [] rfl e s y
    rw [List.drop_eq_getElem_cons h] at p
    unfold forL at p
    cases eg : g items[i] τ with
    | none => rw [eg] at p; exact p.elim
    | some τ1 =>
      rw [eg] at p
      refine ⟨F', τ, tv, td, _, s', τ1, eg, fun σ2 F2 H2 s2 _ _ => ⟨F2, τ1, tv, td, s2, ?_⟩⟩
      cases eb : b τ1 with
      | nx τ2 => simp only [eb] at p; exact fun σ3 F3 H3 s3 => ⟨F3, τ2, s3, p⟩
      | ct τ2 => simp only [eb] at p; exact fun σ3 F3 H3 s3 => ⟨F3, τ2, s3, p⟩
      | bk τ2 => simp only [eb] at p; exact p
      | rt d τ2 => simp only [eb] at p; exact p
      | ex c τ2 => simp only [eb] at p; exact p
      | bad => simp only [eb] at p; exact p
  · have e : i = items.length := by omega
    subst e
    rw [List.drop_length] at p
    exact .inl ⟨ok.st F H σ τ s, p σ F H s⟩
theorem s_for {tg it : Expr} {body : List Stmt} {pos : Pos} {m : MA} {sl : List Nat} {g : D → Env → Option Env} {b : MS} (c : XOk X W) (hi : PI X tg it (rdI X.K B W m)) (hg : PG X tg (rdG X.K B sl g)) (hb : PSs X body (rdS X.K B W b))
    (hs : ∀ x, foldedSetIterable it X.env x = pure x := by intro _; rfl) : PS X (.For tg it body [] pos) (rdS X.K B W (sFor m g b)) := PS.imp (ps_for c.hp c.calm hi hg hb hs) fun D' σ H ⟨F, τ, vs, ds, s, p⟩ =>
  ⟨F, τ, vs, ds, s, post_imp (post_s (σ := σ) p) (fun items τ1 q J us es F' H' hl s' ok => for_core ok s' (postS_pops hl q)) fun _ _ q => q⟩
theorem s_while {c : Expr} {body : List Stmt} {pos : Pos} {t : MT} {b : MS} (k : XOk X W) (fuel : Env → Nat) (hc : PT X c (rdT X.K B W t)) (hb : PSs X body (rdS X.K B W b)) : PS X (.While c body [] pos) (rdS X.K B W (sWhile fuel t b)) := PS.imp (ps_while k.hp hc hb) fun D' σ H ⟨F, τ, vs, ds, s, p⟩ => by
  refine ⟨fun m σ H => ∃ F τ, StT X.K B F H σ τ vs ds ∧ postS X.K B W vs ds D' (whileM t b m τ), ⟨_, F, τ, s, p⟩, ?_⟩
  rintro m σ H ⟨F, τ, s, p⟩
  cases m with
  | zero => exact False.elim p
  | succ m =>
    unfold whileM at p
    refine ⟨F, τ, vs, ds, s, ?_⟩
    cases et : t τ with
    | bad => rw [et] at p; exact p
    | ex e τ1 => rw [et] at p; exact fun F1 H1 s1 => p σ F1 H1 s1
    | ok x τ1 =>
      rw [et] at p
      intro F1 H1 s1
      cases x with
      | false => exact p σ F1 H1 s1
      | true =>
        refine ⟨fun σ' H' => ∃ F τ, StT X.K B F H' σ' τ vs ds ∧ postS X.K B W vs ds D' (whileM t b m τ), fun σ' H' ⟨F', τ', s', p'⟩ => ⟨m, Nat.lt_succ_self m, F', τ', s', p'⟩, F1, τ1, vs, ds, s1, ?_⟩
        cases eb : b τ1 with
        | nx τ2 => simp only [eb] at p; exact fun σ3 F3 H3 s3 => ⟨F3, τ2, s3, p⟩
        | ct τ2 => simp only [eb] at p; exact fun σ3 F3 H3 s3 => ⟨F3, τ2, s3, p⟩
        | bk τ2 => simp only [eb] at p; exact p
        | rt d τ2 => simp only [eb] at p; exact p
        | ex c τ2 => simp only [eb] at p; exact p
        | bad => simp only [eb] at p; exact p

/-! ### list comprehensions -/
def wipeE (τ : Env) : List Nat → Env
  | [] => τ
  | v :: vs => (wipeE τ vs).set v none
def lcL (own : List Nat) (g : D → Env → Option Env) (t : MT) (m : ME) : List D → List D → Env → R (List D)
  | [], acc, τ => .ok acc τ
  | d :: r, acc, τ => match g d τ with
    | none => .bad
    | some τ1 => (t τ1).bind fun b τ2 => if b = true then (m τ2).bind fun e τ3 => if acc.length < 1000000 then lcL own g t m r (acc ++ [e]) (wipeE τ3 own) else .bad else lcL own g t m r acc (wipeE τ2 own)
def eLc (own : List Nat) (it : MA) (g : D → Env → Option Env) (t : MT) (m : ME) : ME := fun τ => (it τ).bind fun items τ1 => match lcL own g t m items [] (wipeE τ1 own) with
  | .ok acc τ2 => .ok (.lst true acc) τ2
  | _ => .bad
theorem Sl.reset {K : PySem.W.Frag} {ca : Str → Addr} {F H : Hp} : ∀ {τ : Env} {σ σ' : L2.St} {f : Ct}, Sl K ca F H τ σ f → σ'.length = σ.length → (∀ (j : Nat) (d : D), τ[j]? = some (some d) → σ'[j]? = σ[j]?) → Sl K ca F H τ σ' f
  | [], σ, σ', f, h, hl, k => by
    obtain ⟨rfl, h2⟩ := h
    exact ⟨List.eq_nil_of_length_eq_zero hl, h2⟩
  | none :: τ, _, σ', f, ⟨x, r, h1, h2⟩, hl, k => by
    subst h1
    cases σ' with
    | nil => cases hl
    | cons y r' => exact ⟨y, r', rfl, h2.reset (by simpa using hl) fun j d hj => by simpa using k (j + 1) d (by simpa using hj)⟩
  | some d :: τ, _, σ', f, ⟨v, r, f1, f2, h1, h2, h3, h4⟩, hl, k => by
    subst h1
    cases σ' with
    | nil => cases hl
    | cons y r' =>
      have e : some y = some (some v) := by simpa using k 0 d (by simp)
      cases e
      exact ⟨v, r', f1, f2, rfl, h2, h3.reset (by simpa using hl) fun j d hj => by simpa using k (j + 1) d (by simpa using hj), h4⟩
theorem wipe_out {σ : L2.St} {j : Nat} : ∀ {own : List Nat}, j ∉ own → (wipe σ own)[j]? = σ[j]?
  | [], _ => rfl
  | v :: vs, h => by
    unfold wipe
    rw [List.getElem?_set_ne (fun e => h (by simp [e]))]
    exact wipe_out fun z => h (List.mem_cons_of_mem _ z)
theorem wipeE_in {τ : Env} {j : Nat} {d : D} : ∀ {own : List Nat}, (wipeE τ own)[j]? = some (some d) → j ∉ own
  | [], _ => by simp
  | v :: vs, h => by
    unfold wipeE at h
    by_cases e : v = j
    · subst e
      by_cases hv : v < (wipeE τ vs).length
      · rw [List.getElem?_set_self hv] at h; cases h
      · rw [List.getElem?_eq_none (by simpa using hv)] at h; cases h
    · rw [List.getElem?_set_ne e] at h
      simp only [List.mem_cons, not_or]
      exact ⟨fun z => e z.symm, wipeE_in h⟩
theorem wipe_in {σ : L2.St} {j : Nat} : ∀ {own : List Nat}, j ∈ own → j < σ.length → (wipe σ own)[j]? = some none
  | [], h, _ => by simp at h
  | v :: vs, h, hl => by
    unfold wipe
    by_cases e : v = j
    · subst e; rw [List.getElem?_set_self (by rw [wipe_length]; exact hl)]
    · rw [List.getElem?_set_ne e]
      exact wipe_in (by rcases List.mem_cons.mp h with z | z; exact absurd z.symm e; exact z) hl
theorem wipe_eq {a b : L2.St} {own : List Nat} (hl : a.length = b.length) (h : ∀ j, j ∉ own → a[j]? = b[j]?) : wipe a own = wipe b own := by
  apply List.ext_getElem?
  intro j
  by_cases e : j ∈ own
  · by_cases hj : j < a.length
    · rw [wipe_in e hj, wipe_in e (by omega)]
    · rw [List.getElem?_eq_none (by rw [wipe_length]; omega), List.getElem?_eq_none (by rw [wipe_length]; omega)]
  · rw [wipe_out e, wipe_out e]; exact h j e
theorem wipe_wipe {σ : L2.St} {own : List Nat} : wipe (wipe σ own) own = wipe σ own := wipe_eq (wipe_length σ own) fun j h => wipe_out h
theorem StT.reset {K : PySem.W.Frag} {F H : Hp} {σ σ' : L2.St} {τ : Env} {vs : List V} {ds : List D} (s : StT K B F H σ τ vs ds) (hl : σ'.length = σ.length) (k : ∀ (j : Nat) (d : D), τ[j]? = some (some d) → σ'[j]? = σ[j]?) (io : IoOk B σ') : StT K B F H σ' τ vs ds := by
  obtain ⟨f1, f2, a, b, w, _⟩ := s
  exact ⟨f1, f2, a.reset hl k, b, w, io⟩
theorem StT.wipeE {K : PySem.W.Frag} {F H : Hp} {σ : L2.St} {τ : Env} {vs : List V} {ds : List D} (s : StT K B F H σ τ vs ds) : ∀ own : List Nat, StT K B F H σ (Bn.wipeE τ own) vs ds
  | [] => s
  | _ :: own => (s.wipeE own).forget
def ioFreeL (B : Bx) (own : List Nat) : Prop := ∀ p ∈ B.io, p.1 ∉ own
theorem StT.wiped {K : PySem.W.Frag} {F H : Hp} {σ : L2.St} {τ : Env} {vs : List V} {ds : List D} {own : List Nat} (s : StT K B F H σ τ vs ds) (hio : ioFreeL B own) : StT K B F H (wipe σ own) (Bn.wipeE τ own) vs ds := by
  have io : IoOk B σ := by obtain ⟨_, _, _, _, _, io⟩ := s; exact io
  exact (s.wipeE own).reset (wipe_length _ _) (fun j d h => wipe_out (wipeE_in h)) fun p hp => by rw [wipe_out (hio p hp)]; exact io p hp
theorem StT.unwiped {K : PySem.W.Frag} {F H : Hp} {σ : L2.St} {τ : Env} {vs : List V} {ds : List D} {own : List Nat} (s : StT K B F H (wipe σ own) (Bn.wipeE τ own) vs ds) (hio : ioFreeL B own) : StT K B F H σ (Bn.wipeE τ own) vs ds := by
  have io : IoOk B (wipe σ own) := by obtain ⟨_, _, _, _, _, io⟩ := s; exact io
  exact s.reset (wipe_length _ _).symm (fun j d h => (wipe_out (wipeE_in h)).symm) fun p hp => by rw [← wipe_out (hio p hp)]; exact io p hp
theorem lc_core' {J : It} {items : List D} {tv : List V} {td : List D} {g : D → Env → Option Env} {sl own : List Nat} {t : MT} {m : ME} {K : PySem.W.Frag} {σ : L2.St} {H F : Hp} {τ τ2 : Env} {acc2 : List D} {Q : VK} (ok : ItOk K B J items tv td) (hsl : ∀ j ∈ sl, j ∈ own) (hio : ioFreeL B own) (s : StT K B F H σ τ tv td)
    (e : lcL own g t m items [] (Bn.wipeE τ own) = .ok acc2 τ2) (k : ∀ v F H, StT K B F H σ τ2 (v :: tv) (.lst true acc2 :: td) → Q v H) : ∀ D, H D = none → ∃ W' : Nat → Nat → Hp → Prop, (∃ m, W' 0 m (upd H D (.lst []))) ∧ ∀ i n H, W' i n H →
      (J.stop i H ∧ Q (.ref D) H) ∨ (J.go i H ∧ ∃ Nx : Hp → Prop, (∀ H', Nx H' → ∃ m', m' < n ∧ W' (i + 1) m' H') ∧ ∀ x H', J.yld i H x H' → rdG K B sl g x (wipe σ own) H' fun σ2 H2 => wipe σ2 own = wipe σ own ∧ rdT K B W0 t σ2 H2 fun b H3 =>
        if b = true then rdE K B W0 m σ2 H3 fun y H4 => ∃ acc, H4 D = some (.lst acc) ∧ acc.length < sizeLine ∧ Nx (upd H4 D (.lst (acc ++ [y]))) else Nx H3) := by
  intro D hD
  have s0 : StT K B F (upd H D (.lst [])) σ τ (.ref D :: tv) (.lst true [] :: td) := s.newLst (us := []) (es := []) rfl hD
  have s1 := s0.wiped (own := own) hio
  -- the items are walked with the new list on top
  refine ⟨fun i n H => n = items.length - i ∧ i ≤ items.length ∧ ∃ F τ acc, StT K B F H (wipe σ own) (Bn.wipeE τ own) (.ref D :: tv) (.lst true acc :: td) ∧ lcL own g t m (items.drop i) acc (Bn.wipeE τ own) = .ok acc2 τ2, ⟨_, rfl, Nat.zero_le _, F, τ, [], s1, e⟩, ?_⟩
  rintro i n H ⟨rfl, hi, F, τ, acc, s, e⟩
  by_cases h : i < items.length
  · refine .inr ⟨ok.go i F H _ _ s.pop h, fun H' => ∃ F τ acc, StT K B F H' (wipe σ own) (Bn.wipeE τ own) (.ref D :: tv) (.lst true acc :: td) ∧ lcL own g t m (items.drop (i + 1)) acc (Bn.wipeE τ own) = .ok acc2 τ2,
      fun H' ⟨F', τ', acc', s', e'⟩ => ⟨items.length - (i + 1), by omega, rfl, h, F', τ', acc', s', e'⟩, fun x H' y => ?_⟩
    have ei : items[i]? = some items[i] := by simp [h]
    obtain ⟨F', s'⟩ := ok.y i _ F H _ _ x H' [.ref D] [.lst true acc] rfl ei s y
    rw [List.drop_eq_getElem_cons h] at e
    unfold lcL at e
    cases eg : g items[i] (Bn.wipeE τ own) with
    | none => rw [eg] at e; cases e
    | some τ1 =>
      rw [eg] at e
      refine ⟨F', _, _, _, _, s', τ1, eg, fun σ2 F2 H2 s2 l2 k2 => ⟨?_, F2, τ1, _, _, s2, ?_⟩⟩
      · rw [← wipe_wipe (σ := σ)]
        exact wipe_eq l2 fun j hj => k2 j fun z => hj (hsl j z)
      · have w2 : wipe σ2 own = wipe σ own := by
          rw [← wipe_wipe (σ := σ)]
          exact wipe_eq l2 fun j hj => k2 j fun z => hj (hsl j z)
        cases et : t τ1 with
        | bad => simp only [et, R.bind] at e; cases e
        | ex c τ3 => simp only [et, R.bind] at e; cases e
        | ok b τ3 =>
          simp only [et, R.bind] at e
          intro F3 H3 s3
          cases b with
          | false =>
            simp only [Bool.false_eq_true, if_false] at e
            rw [if_neg Bool.false_ne_true]
            have s4 := s3.wiped (own := own) hio
            rw [w2] at s4
            exact ⟨F3, τ3, acc, s4, e⟩
          | true =>
            simp only [if_true] at e
            rw [if_pos rfl]
            refine ⟨F3, τ3, _, _, s3, ?_⟩
            cases em : m τ3 with
            | bad => simp only [em] at e; cases e
            | ex c τ4 => simp only [em] at e; cases e
            | ok d τ4 =>
              simp only [em] at e
              intro v F4 H4 s4
              by_cases hacc : acc.length < 1000000
              · rw [if_pos hacc] at e
                obtain ⟨ff, q⟩ := s4.pop.top
                obtain ⟨a', vs', g', ea, hx, hg, hq⟩ := q
                cases ea
                refine ⟨vs', hx, ?_, F4, τ4, acc ++ [d], ?_, e⟩
                · rw [hg.length, sizeLine_eq]; omega
                · have s5 := (StT.swap (us := [v]) (es := [d]) s4 rfl).change (us := [v]) (ds := [d]) (ys := vs' ++ [v]) (es2 := acc ++ [d]) rfl hx fun g1 g2 r1 r2 => ⟨_, r1.append r2, fun b => Nat.le_refl _⟩
                  have s6 := s5.wiped (own := own) hio
                  rw [w2] at s6
                  exact s6
              · rw [if_neg hacc] at e; cases e
  · have ei : i = items.length := by omega
    subst ei
    rw [List.drop_length] at e
    cases (show R.ok acc (Bn.wipeE τ own) = R.ok acc2 τ2 from e)
    exact .inl ⟨ok.st F H _ _ s.pop, k _ F H (s.unwiped hio)⟩
end
end Bn

/-! Comprehensions; a def by its function; operators. -/
namespace Bn
open PySem PySem.Spec PyProof.Rows L2
section
variable {X : Cx} {B : Bx} {W : WX}
theorem StT.under {K : PySem.W.Frag} {F H : Hp} {σ : L2.St} {τ : Env} {vs us : List V} {ds es : List D} {v : V} {d : D} (s : StT K B F H σ τ (v :: (us ++ vs)) (d :: (es ++ ds))) (hl : us.length = es.length) : StT K B F H σ τ (v :: vs) (d :: ds) := by
  obtain ⟨f1, f2, A, ⟨v', r', g1, g2, e, b1, b2, q⟩, w, io⟩ := s
  cases e
  obtain ⟨g3, g4, c1, c2, q2⟩ := b2.split' hl
  exact ⟨f1, fun b => g1 b + g4 b, A, ⟨v, vs, g1, g4, rfl, b1, c2, fun _ => rfl⟩, w.less fun b => by show f1 b + (g1 b + g4 b) ≤ f1 b + f2 b; rw [q, q2]; omega, io⟩
theorem PTs.imp {e : List Expr} {t t' : TT} (h : PTs X e t) (k : ∀ σ H Q, t' σ H Q → t σ H Q) : PTs X e t' := ⟨fun p s σ H Q I q => h.run p s σ H Q I (k _ _ _ q)⟩
def tTrue : MT := fun τ => .ok true τ
theorem ts_nil : PTs X [] (rdT X.K B W tTrue) := PTs.imp pts_nil fun σ H Q ⟨F, τ, vs, ds, s, p⟩ => p F H s
theorem impLc {own : List Nat} {it : MA} {g : D → Env → Option Env} {sl : List Nat} {t : MT} {m : ME} (hsl : ∀ j ∈ sl, j ∈ own) (hio : ioFreeL B own) (σ : L2.St) (H : Hp) (Q : VK) (h : rdE X.K B W (eLc own it g t m) σ H Q) : tLc (rdI X.K B W it) (rdG X.K B sl g) (rdT X.K B W0 t) (rdE X.K B W0 m) own σ H Q := by
  obtain ⟨F, τ, vs, ds, s, p⟩ := h
  refine ⟨F, τ, vs, ds, s, post_imp (post_bind p) (fun items τ1 q J us es F' H' hl s' ok => ?_) fun _ _ q => q⟩
  cases e : lcL own g t m items [] (Bn.wipeE τ1 own) with
  | ok acc τ2 =>
    simp only [e] at q
    exact lc_core' ok hsl hio s' e fun v F2 H2 s2 => q v F2 H2 (s2.under hl)
  | _ => simp only [e] at q; exact False.elim q
theorem e_lc {elt tg iter : Expr} {ifs : List Expr} {scope : Scope} {own : List (Str × Nat)} {pos : Pos} {it : MA} {g : D → Env → Option Env} {sl : List Nat} {t : MT} {m : ME} (c : XOk X W) (hN : X.N.Nodup) (hi : PI X tg iter (rdI X.K B W it)) (ok : BlkOk X.N X.env.scope scope own)
    (hg : ∀ (s : Shared) (H : Hp) (C : Addr) (cl : List (Str × Addr)) (fp : List Addr), PG (X.blk s H scope (compEnvC scope cl C X.env) fp) tg (rdG X.K B sl g)) (ht : ∀ (s : Shared) (H : Hp) (C : Addr) (cl : List (Str × Addr)) (fp : List Addr), PTs (X.blk s H scope (compEnvC scope cl C X.env) fp) ifs (rdT X.K B W0 t))
    (he : ∀ (s : Shared) (H : Hp) (C : Addr) (cl : List (Str × Addr)) (fp : List Addr), XOk (X.blk s H scope (compEnvC scope cl C X.env) fp) W0 → PE (X.blk s H scope (compEnvC scope cl C X.env) fp) elt (rdE X.K B W0 m))
    (hsl : ∀ j ∈ sl, j ∈ own.map (·.2) := by decide) (hio : ioFreeL B (own.map (·.2)) := by first | (intro p hp; cases hp; done) | (intro p hp; simp only [List.mem_cons, List.not_mem_nil, or_false] at hp; rcases hp with rfl | rfl <;> simp) | (intro p hp; simp only [List.mem_cons, List.not_mem_nil, or_false] at hp; rcases hp with rfl | rfl | rfl <;> simp) | (intro p hp; simp only [List.mem_cons, List.not_mem_nil, or_false] at hp; subst hp; simp)) (hs : ∀ x, foldedSetIterable iter X.env x = pure x := by intro _; rfl) :
    PE X (.ListComp elt [⟨tg, iter, ifs, 0⟩] scope pos) (rdE X.K B W (eLc (own.map (·.2)) it g t m)) :=
  PE.imp (pe_lc c.calm hN hi ok hg ht (fun s H C cl fp => he s H C cl fp ⟨takes0, PassesOwn.never, c.calm⟩) hs) (impLc hsl hio)
theorem s_setLc {i : Nat} {y : Str} {py : Pos} {elt tg iter : Expr} {ifs : List Expr} {scope : Scope} {own : List (Str × Nat)} {pos spos : Pos} {it : MA} {g : D → Env → Option Env} {sl : List Nat} {t : MT} {m : ME} (c : XOk X W) (hN : X.N.Nodup) (hy : X.N[i]? = some y) (hyl : X.env.scope.names.lookup y = some .local)
    (hsw : swapsWith (.ListComp elt [⟨tg, iter, ifs, 0⟩] scope pos) (some (.Name y py)) spos.line X.env = pure true) (hi : PI X tg iter (rdI X.K B W it)) (ok : BlkOk X.N X.env.scope scope own)
    (hg : ∀ (s : Shared) (H : Hp) (C : Addr) (cl : List (Str × Addr)) (fp : List Addr), PG (X.blk s H scope (compEnvC scope cl C X.env) fp) tg (rdG X.K B sl g)) (ht : ∀ (s : Shared) (H : Hp) (C : Addr) (cl : List (Str × Addr)) (fp : List Addr), PTs (X.blk s H scope (compEnvC scope cl C X.env) fp) ifs (rdT X.K B W0 t))
    (he : ∀ (s : Shared) (H : Hp) (C : Addr) (cl : List (Str × Addr)) (fp : List Addr), XOk (X.blk s H scope (compEnvC scope cl C X.env) fp) W0 → PE (X.blk s H scope (compEnvC scope cl C X.env) fp) elt (rdE X.K B W0 m))
    (hsl : ∀ j ∈ sl, j ∈ own.map (·.2) := by decide) (hio : ioFreeL B (own.map (·.2)) := by first | (intro p hp; cases hp; done) | (intro p hp; simp only [List.mem_cons, List.not_mem_nil, or_false] at hp; rcases hp with rfl | rfl <;> simp) | (intro p hp; simp only [List.mem_cons, List.not_mem_nil, or_false] at hp; rcases hp with rfl | rfl | rfl <;> simp) | (intro p hp; simp only [List.mem_cons, List.not_mem_nil, or_false] at hp; subst hp; simp)) (hio2 : ioFree B i := by first | (intro p hp; cases hp; done) | (intro p hp; simp only [List.mem_cons, List.not_mem_nil, or_false] at hp; rcases hp with rfl | rfl <;> simp) | (intro p hp; simp only [List.mem_cons, List.not_mem_nil, or_false] at hp; rcases hp with rfl | rfl | rfl <;> simp) | (intro p hp; simp only [List.mem_cons, List.not_mem_nil, or_false] at hp; subst hp; simp)) (hs : ∀ x, foldedSetIterable iter X.env x = pure x := by intro _; rfl) :
    PS X (.Assign [.Name y py] (.ListComp elt [⟨tg, iter, ifs, 0⟩] scope pos) spos) (rdS X.K B W (sAsg (eLc (own.map (·.2)) it g t m) (gN i))) :=
  PS.imp (ps_setLc c.calm hN hy hyl hsw hi ok hg ht (fun s H C cl fp => he s H C cl fp ⟨takes0, PassesOwn.never, c.calm⟩) hs) fun D σ H ⟨F, τ, vs, ds, s, p⟩ =>
    impLc hsl hio σ H _ ⟨F, τ, vs, ds, s, post_imp (post_s (σ := σ) p) (fun d τ1 q v F1 H1 s1 => q _ F1 H1 (s1.put' hio2)) fun _ _ q => q⟩
end

/-! ### a def -/
def callF (n N : Nat) (b : MS) : List D → CR := fun ds => if ds.length = n then (match b (ds.map some ++ List.replicate (N - n) none) with
  | .nx _ => .ok .non
  | .rt d _ => .ok d
  | .ex c _ => .ex c
  | _ => .bad) else .bad
theorem sl_start {K : PySem.W.Frag} {ca : Str → Addr} {F H : Hp} {k : Nat} : ∀ {ds : List D} {vs : List V}, RepL K ca F ds vs → Sl K ca F H (ds.map some ++ List.replicate k none) (vs.map some ++ List.replicate k none) (fun _ => 0)
  | [], vs, h => by
    cases (show vs = [] from h)
    show Sl K ca F H (List.replicate k none) (List.replicate k none) _
    induction k with
    | zero => exact ⟨rfl, fun _ => rfl⟩
    | succ k ih => exact ⟨none, _, rfl, ih⟩
  | d :: ds, _, ⟨v, r, h1, h2, h3⟩ => by
    subst h1
    exact ⟨v, _, _, _, rfl, h2.o, sl_start h3, fun _ => rfl⟩
section
variable {P : Program} {w : World} {K : PySem.W.Frag} {mg : Str → Option Value} {base : Heap} {ca : Str → Addr}
theorem fn_ok {x qual : Str} {st : Stmt} {f : Addr} {fd : FuncData} {N ps : List Str} {k : Nat} {b : MS} (F : Fun K x qual st f fd) (S : FnScope N ps (defScope st))
    (hb : ∀ (cdv : Value) (A : Around) (outer : List PySem.Env) (s : Shared) (H : Hp) (E : XK) (F0 R : Hp), Room k (A.deeper (envOfC qual (defScope st) s.heap.objs.size f cdv)) →
      XOk (cxOf (L2.CX P w) P w K mg base N qual (defScope st) f cdv A outer s H E) (fun cls d _ H => E cls d H) →
      PSs (cxOf (L2.CX P w) P w K mg base N qual (defScope st) f cdv A outer s H E) (defBody st) (rdS K ⟨ca, F0, R, []⟩ (fun cls d _ H => E cls d H) b)) :
    FnOk P w K mg base (L2.CX P w) (k + 1) f fd ps (spP K ca (callF ps.length N.length b)) := by
  refine F.okX S (fun vs H Q E h => ?_) (fun cdv A outer s H vs Q E hr h => ?_)
  · obtain ⟨F0, ds, _, rl, h⟩ := h
    rw [rl.length]
    by_cases e : ds.length = ps.length
    · exact e
    · unfold callF at h
      rw [if_neg e] at h
      exact h.elim
  · obtain ⟨F0, ds, sm, rl, h⟩ := h
    refine ⟨_, hb cdv A outer s H E F0 H hr ⟨takes_of rfl rfl rfl rfl, passes_of rfl, rfl⟩, ?_⟩
    have hl : ds.length = ps.length := by
      by_cases e : ds.length = ps.length
      · exact e
      · unfold callF at h
        rw [if_neg e] at h
        exact h.elim
    unfold callF at h
    rw [if_pos hl] at h
    have st0 : StT K ⟨ca, F0, H, []⟩ F0 H (L2.start N vs) (ds.map some ++ List.replicate (N.length - ps.length) none) [] [] := by
      refine ⟨fun _ => 0, fun _ => 0, ?_, ⟨rfl, fun _ => rfl⟩, ⟨fun _ => Nat.zero_le _, fun a q => absurd q (Nat.lt_irrefl _), fun a q => absurd q (Nat.lt_irrefl _), sm, Same.refl _, Same.refl _, fun a q => .inl q⟩, fun p hp => by cases hp⟩
      unfold L2.start
      rw [rl.length, hl]
      exact sl_start rl
    refine ⟨F0, _, [], [], st0, ?_⟩
    cases e : b (ds.map some ++ List.replicate (N.length - ps.length) none) with
    | nx τ =>
      rw [e] at h
      intro σ' F' H' s'
      obtain ⟨f1, f2, _, _, w', _⟩ := s'
      exact h .non F' H' (fun _ => 0) w'.s0 w'.sF w'.sR (Rep.o (d := .non) rfl) (fun _ => Nat.zero_le _) (fun a q => absurd q (Nat.lt_irrefl _)) w'.fr
    | rt d τ =>
      rw [e] at h
      intro v σ' F' H' s'
      obtain ⟨f1, f2, _, ⟨_, _, g1, g2, ee, hv, _, q⟩, w', _⟩ := s'
      cases ee
      have le : ∀ a, g1 a ≤ f1 a + f2 a := fun a => by rw [q]; omega
      exact h v F' H' g1 w'.s0 w'.sF w'.sR hv (fun a => Nat.le_trans (le a) (w'.nd a)) (fun a z => ⟨w'.dF a (Nat.lt_of_lt_of_le z (le a)), w'.dR a (Nat.lt_of_lt_of_le z (le a))⟩) w'.fr
    | ex c τ =>
      rw [e] at h
      intro σ' F' H' s'
      obtain ⟨f1, f2, _, _, w', _⟩ := s'
      exact h H' w'.sR
    | bk τ => rw [e] at h; exact h.elim
    | ct τ => rw [e] at h; exact h.elim
    | bad => rw [e] at h; exact h.elim
theorem fo_of {x qual : Str} {st : Stmt} {f : Addr} {fd : FuncData} {ps : List Str} {k : Nat} {g : List D → CR} (F : Fun K x qual st f fd) (hm : mg x = some (.ref f)) (hb : Binds K fd ps []) (h : FnOk P w K mg base (L2.CX P w) k f fd ps (spP K ca g)) : Fo P w K mg base ca k x g := ⟨f, fd, ps, hm, F.kp, hb, h⟩
end
end Bn

/-! Operators and built-in calls by trees. -/
namespace Bn
open PySem PySem.Spec PyProof.Rows L2
section
variable {K : PySem.W.Frag}
def gI (k : Int → Int → D) : D → D → Option D
  | .int i, .int j => some (k i j)
  | _, _ => none
def gIC (C : Int → Int → Prop) [∀ i j, Decidable (C i j)] (k : Int → Int → D) : D → D → Option D
  | .int i, .int j => if C i j then some (k i j) else none
  | _, _ => none
theorem opS_I0 {f : Int → Int → V} {k : Int → Int → D} (h : ∀ ca F i j, Rep K ca F (k i j) (f i j)) : OpS K (rI0 f) (gI k) := by
  intro ca F H x y a b d f1 f2 Q sm hx hy e q
  cases a with
  | int i =>
    cases b with
    | int j =>
      cases (show some (k i j) = some d from e)
      exact ⟨i, j, hx.1, hy.1, q _ _ (h ca F i j).o⟩
    | _ => cases e
  | _ => cases e
theorem opS_IC {C : Int → Int → Prop} [∀ i j, Decidable (C i j)] {f : Int → Int → V} {k : Int → Int → D} (h : ∀ ca F i j, Rep K ca F (k i j) (f i j)) : OpS K (rI C f) (gIC C k) := by
  intro ca F H x y a b d f1 f2 Q sm hx hy e q
  cases a with
  | int i =>
    cases b with
    | int j =>
      by_cases c : C i j
      · have e' : (if C i j then some (k i j) else none) = some d := e
        rw [if_pos c] at e'
        cases e'
        exact ⟨i, j, hx.1, hy.1, c, q _ _ (h ca F i j).o⟩
      · have e' : (if C i j then some (k i j) else none) = some d := e
        rw [if_neg c] at e'; cases e'
    | _ => cases e
  | _ => cases e
def gAdd : D → D → Option D := gI fun i j => .int (i + j)
def gSub : D → D → Option D := gI fun i j => .int (i - j)
instance {i j : Int} : Decidable (CMulW i j) := by unfold CMulW; infer_instance
instance {i j : Int} : Decidable (CDivW i j) := by unfold CDivW; infer_instance
instance {i j : Int} : Decidable (CPow i j) := by unfold CPow; infer_instance
def gMul : D → D → Option D := gIC CMulW fun i j => .int (i * j)
def gDiv : D → D → Option D := gIC CDivW fun i j => .int (i / j)
def gMod : D → D → Option D := gIC (fun _ j => 0 < j) fun i j => .int (i % j)
def gPow : D → D → Option D := gIC CPow fun i j => .int (i ^ j.toNat)
def gLt : D → D → Option D := gI fun i j => .bl (decide (i < j))
def gLe : D → D → Option D := gI fun i j => .bl (decide (i ≤ j))
def gGt : D → D → Option D := gI fun i j => .bl (decide (j < i))
def gGe : D → D → Option D := gI fun i j => .bl (decide (j ≤ i))
theorem sAdd : OpS K (rI0 fun i j => .int (i + j)) gAdd := opS_I0 fun _ _ _ _ => rfl
theorem sSub : OpS K (rI0 fun i j => .int (i - j)) gSub := opS_I0 fun _ _ _ _ => rfl
theorem sDiv : OpS K (rI CDivW fun i j => .int (i / j)) gDiv := opS_IC fun _ _ _ _ => rfl
theorem sMod : OpS K (rI (fun _ j => 0 < j) fun i j => .int (i % j)) gMod := opS_IC fun _ _ _ _ => rfl
theorem sLt : OpS K (rI0 fun i j => .bl (decide (i < j))) gLt := opS_I0 fun _ _ _ _ => rfl
theorem sGt : OpS K (rI0 fun i j => .bl (decide (j < i))) gGt := opS_I0 fun _ _ _ _ => rfl
def gNeg : D → Option D
  | .int i => some (.int (-i))
  | _ => none
def gAddS : D → D → Option D
  | .str i, .str j => if i.length + j.length ≤ 1000000 then some (.str (i ++ j)) else none
  | _, _ => none
/-! ### == of data -/
mutual
def toP : D → PyData
  | .bl b => .bool b
  | .int i => .int i
  | .str s => .str s
  | .tup xs => .tuple (toPs xs)
  | .lst _ xs => .list (toPs xs)
  | .cst xs => .list (toPs xs)
  | .non => .none
  | .ty _ => .none
  | .val _ => .none
  | .tpo xs => .tuple (toPs xs)
  | .dct _ _ _ => .none
  | .obj _ _ _ _ => .none
def toPs : List D → List PyData
  | [] => []
  | x :: xs => toP x :: toPs xs
end
mutual
def hasP : D → Bool
  | .tup xs => hasPs xs
  | .lst _ xs => hasPs xs
  | .cst xs => hasPs xs
  | .ty _ => false
  | .val _ => false
  | .tpo xs => hasPs xs
  | .dct _ _ _ => false
  | .obj _ _ _ _ => false
  | .bl _ => true | .int _ => true | .str _ => true | .non => true
def hasPs : List D → Bool
  | [] => true
  | x :: xs => hasP x && hasPs xs
end
section
variable {ca : Str → Addr} {F H : Hp}
mutual
theorem Rep.dp (sm : Same F H) : ∀ (d : D) (v : V), hasP d = true → Rep K ca F d v → Dp K H v (toP d)
  | .non, v, _, h => by cases (show v = .non from h); exact .non
  | .bl b, v, _, h => by cases (show v = .bl b from h); exact .bl b
  | .int b, v, _, h => by cases (show v = .int b from h); exact .int b
  | .str b, v, _, h => by cases (show v = .str b from h); exact .str b
  | .tup ds, v, z, h => by
    obtain ⟨a, vs, rfl, h1, h2⟩ := h
    exact .tup (sqT_same sm h1) (RepL.dp sm ds vs z h2)
  | .lst true _, _, _, h => h.elim
  | .lst false ds, v, z, h => by
    obtain ⟨a, vs, rfl, h1, h2⟩ := h
    exact .lst (sqOf (sm _ _ h1)) (RepL.dp sm ds vs z h2)
  | .cst ds, v, z, h => by
    obtain ⟨a, vs, rfl, h1, h2⟩ := h
    exact .lst (sm.seq h1) (RepL.dp sm ds vs z h2)
  | .tpo _, _, _, h => h.elim
theorem RepL.dp (sm : Same F H) : ∀ (ds : List D) (vs : List V), hasPs ds = true → RepL K ca F ds vs → DpAll K H vs (toPs ds)
  | [], vs, _, h => by cases (show vs = [] from h); exact .nil
  | d :: ds, _, z, ⟨v, r, h1, h2, h3⟩ => by
    subst h1
    have z' : (hasP d && hasPs ds) = true := z
    rw [Bool.and_eq_true] at z'
    exact .cons (Rep.dp sm d v z'.1 h2) (RepL.dp sm ds r z'.2 h3)
end
mutual
theorem RepO.dp (sm : Same F H) : ∀ (d : D) (v : V) (f : Ct), hasP d = true → RepO K ca F H d v f → Dp K H v (toP d)
  | .lst true ds, v, f, z, h => by
    obtain ⟨a, vs, g, rfl, h1, h2, _⟩ := h
    exact .lst (sqOf h1) (RepOs.dp sm ds vs g z h2)
  | .lst false ds, v, f, z, h => Rep.dp sm _ _ z h.1
  | .non, v, f, z, h => Rep.dp sm _ _ z h.1
  | .bl _, v, f, z, h => Rep.dp sm _ _ z h.1
  | .int _, v, f, z, h => Rep.dp sm _ _ z h.1
  | .str _, v, f, z, h => Rep.dp sm _ _ z h.1
  | .tup _, v, f, z, h => Rep.dp sm _ _ z h.1
  | .cst _, v, f, z, h => Rep.dp sm _ _ z h.1
  | .tpo ds, v, f, z, h => by
    obtain ⟨a, vs, rfl, h1, h2⟩ := h
    exact .tup (sqT_same sm h1) (RepOs.dp sm ds vs f z h2)
theorem RepOs.dp (sm : Same F H) : ∀ (ds : List D) (vs : List V) (f : Ct), hasPs ds = true → RepOs K ca F H ds vs f → DpAll K H vs (toPs ds)
  | [], vs, _, _, h => by cases (show vs = [] from h.1); exact .nil
  | d :: ds, _, f, z, ⟨v, r, f1, f2, h1, h2, h3, _⟩ => by
    subst h1
    have z' : (hasP d && hasPs ds) = true := z
    rw [Bool.and_eq_true] at z'
    exact .cons (RepO.dp sm d v f1 z'.1 h2) (RepOs.dp sm ds r f2 z'.2 h3)
end
end
def okP (d : D) : Bool := hasP d && SeqAt.shaped (toP d)
def eqP (a b : D) : Bool := PyData.eqv (toP a) (toP b)
def gEq (a b : D) : Option D := if okP a = true ∧ okP b = true then some (.bl (eqP a b)) else none
def gNe (a b : D) : Option D := if okP a = true ∧ okP b = true then some (.bl (!eqP a b)) else none
theorem sEq : OpS K (rEqD K) gEq := by
  intro ca F H x y a b d f1 f2 Q sm hx hy e q
  unfold gEq at e
  by_cases c : okP a = true ∧ okP b = true
  · rw [if_pos c] at e
    cases e
    have c1 := c.1
    have c2 := c.2
    unfold okP at c1 c2
    rw [Bool.and_eq_true] at c1 c2
    exact ⟨_, _, RepO.dp sm a x f1 c1.1 hx, RepO.dp sm b y f2 c2.1 hy, c1.2, c2.2, q (.bl _) _ (Rep.o (d := .bl _) rfl)⟩
  · rw [if_neg c] at e; cases e
theorem sNe : OpS K (rNeD K) gNe := by
  intro ca F H x y a b d f1 f2 Q sm hx hy e q
  unfold gNe at e
  by_cases c : okP a = true ∧ okP b = true
  · rw [if_pos c] at e
    cases e
    have c1 := c.1
    have c2 := c.2
    unfold okP at c1 c2
    rw [Bool.and_eq_true] at c1 c2
    exact ⟨_, _, RepO.dp sm a x f1 c1.1 hx, RepO.dp sm b y f2 c2.1 hy, c1.2, c2.2, q (.bl _) _ (Rep.o (d := .bl _) rfl)⟩
  · rw [if_neg c] at e; cases e
def isNonD : D → Bool
  | .non => true
  | .val v => decide (v = .non)
  | _ => false
def gIsN (a b : D) : Option D := match b with
  | .non => some (.bl (isNonD a))
  | _ => none
def gNotN (a b : D) : Option D := match b with
  | .non => some (.bl (!isNonD a))
  | _ => none
theorem isN_of {ca : Str → Addr} {F H : Hp} {a : D} {x : V} {f : Ct} (h : RepO K ca F H a x f) : decide (x = .non) = isNonD a := by
  cases a with
  | non => cases (show x = .non from h.1); rfl
  | bl b => cases (show x = .bl b from h.1); rfl
  | int b => cases (show x = .int b from h.1); rfl
  | str b => cases (show x = .str b from h.1); rfl
  | ty b => cases (show x = .ty b from h.1); rfl
  | val b => cases (show x = b from h.1); rfl
  | tpo ds => obtain ⟨a, vs, rfl, _⟩ := h; rfl
  | dct m ks ds => cases m with
    | true => obtain ⟨a, vs, g, rfl, _⟩ := h; rfl
    | false => obtain ⟨⟨a, vs, rfl, _⟩, _⟩ := h; rfl
  | tup ds => obtain ⟨⟨a, vs, rfl, _⟩, _⟩ := h; rfl
  | cst ds => obtain ⟨⟨a, vs, rfl, _⟩, _⟩ := h; rfl
  | lst m ds => cases m with
    | true => obtain ⟨a, vs, g, rfl, _⟩ := h; rfl
    | false => obtain ⟨⟨a, vs, rfl, _⟩, _⟩ := h; rfl
  | obj m c ns ds => cases m with
    | true => obtain ⟨a, dx, fs, vs, g, rfl, _⟩ := h; rfl
    | false => obtain ⟨⟨a, dx, fs, vs, rfl, _⟩, _⟩ := h; rfl
theorem sIsN : OpS K (fun x y H Q => y = .non ∧ Q (.bl (decide (x = .non))) H) gIsN := by
  intro ca F H x y a b d f1 f2 Q sm hx hy e q
  cases b with
  | non =>
    cases (show some (D.bl (isNonD a)) = some d from e)
    refine ⟨hy.1, ?_⟩
    rw [isN_of hx]
    exact q (.bl _) _ (Rep.o (d := .bl _) rfl)
  | _ => cases e
/-! ### subscripts, len -/
def itemsD : D → Option (List D)
  | .lst _ xs => some xs
  | .cst xs => some xs
  | .tup xs => some xs
  | .tpo xs => some xs
  | _ => none
def gIx (a b : D) : Option D := match b with
  | .int i => (match a with
    | .str z => if z.length ≤ 1000000 then (atI z.cps.toList i).map fun c => .str ⟨#[c]⟩ else none
    | .lst _ xs => atI xs i
    | .cst xs => atI xs i
    | .tup xs => atI xs i
    | .tpo xs => atI xs i
    | _ => none)
  | _ => none
theorem atI_get {α β : Type} {xs : List α} {ys : List β} {i : Int} {y : β} (hl : xs.length = ys.length) (h : atI ys i = some y) : ∃ (j : Nat) (x : α), ys[j]? = some y ∧ xs[j]? = some x ∧ atI xs i = some x := by
  unfold atI at h ⊢
  obtain ⟨j, e, h⟩ := bind_some h
  have hj : j < ys.length := (List.getElem?_eq_some_iff.mp h).1
  obtain ⟨x, hx⟩ : ∃ x, xs[j]? = some x := ⟨xs[j]'(by omega), by simp [hl, hj]⟩
  refine ⟨j, x, h, hx, ?_⟩
  rw [hl, e]
  exact hx
theorem seq_of {ca : Str → Addr} {F H : Hp} {a : D} {x : V} {f : Ct} {xs : List D} (sm : Same F H) (h : RepO K ca F H a x f) (e : itemsD a = some xs) : ∃ p vs g, x = .ref p ∧ (SqL K H p vs ∨ SqT K H p vs) ∧ RepOs K ca F H xs vs g := by
  cases a with
  | tup ds =>
    cases (show some ds = some xs from e)
    obtain ⟨⟨a, vs, rfl, h1, h2⟩, _⟩ := h
    exact ⟨a, vs, _, rfl, .inr (sqT_same sm h1), h2.os⟩
  | tpo ds =>
    cases (show some ds = some xs from e)
    obtain ⟨a, vs, rfl, h1, h2⟩ := h
    exact ⟨a, vs, _, rfl, .inr (sqT_same sm h1), h2⟩
  | cst ds =>
    cases (show some ds = some xs from e)
    obtain ⟨⟨a, vs, rfl, h1, h2⟩, _⟩ := h
    exact ⟨a, vs, _, rfl, .inl (sm.seq h1), h2.os⟩
  | lst m ds =>
    cases (show some ds = some xs from e)
    cases m with
    | true =>
      obtain ⟨a, vs, g, rfl, h1, h2, _⟩ := h
      exact ⟨a, vs, g, rfl, .inl (sqOf h1), h2⟩
    | false =>
      obtain ⟨⟨a, vs, rfl, h1, h2⟩, _⟩ := h
      exact ⟨a, vs, _, rfl, .inl (sqOf (sm _ _ h1)), h2.os⟩
  | _ => cases e
theorem gIx_seq {a d : D} {i : Int} (e : gIx a (.int i) = some d) : (∃ xs, itemsD a = some xs ∧ atI xs i = some d) ∨ ∃ z c, a = .str z ∧ z.length ≤ 1000000 ∧ atI z.cps.toList i = some c ∧ d = .str ⟨#[c]⟩ := by
  cases a with
  | tup xs => exact .inl ⟨xs, rfl, e⟩
  | cst xs => exact .inl ⟨xs, rfl, e⟩
  | lst m xs => exact .inl ⟨xs, rfl, e⟩
  | tpo xs => exact .inl ⟨xs, rfl, e⟩
  | str z =>
    have e' : (if z.length ≤ 1000000 then (atI z.cps.toList i).map fun c => D.str ⟨#[c]⟩ else none) = some d := e
    by_cases c : z.length ≤ 1000000
    · rw [if_pos c] at e'
      cases e2 : atI z.cps.toList i with
      | none => rw [e2] at e'; cases e'
      | some c' =>
        rw [e2] at e'
        exact .inr ⟨z, c', rfl, c, e2, (Option.some.inj e').symm⟩
    · rw [if_neg c] at e'; cases e'
  | _ => cases e
theorem sIx : OpS K (rIx K) gIx := by
  intro ca F H x y a b d f1 f2 Q sm hx hy e q
  cases b with
  | int i =>
    rcases gIx_seq e with ⟨xs, e1, e2⟩ | ⟨z, c, rfl, hz, e2, rfl⟩
    · obtain ⟨p, vs, g, rfl, h1, h2⟩ := seq_of sm hx e1
      obtain ⟨j, v, g1, g2, g3⟩ := atI_get h2.length e2
      obtain ⟨v', g', k1, k2⟩ := h2.get g1
      rw [g2] at k1; cases k1
      rcases h1 with h1 | h1
      · exact .inl ⟨p, vs, i, v, rfl, hy.1, h1, g3, q v _ k2⟩
      · exact .inr (.inl ⟨p, vs, i, v, rfl, hy.1, h1, g3, q v _ k2⟩)
    · exact .inr (.inr ⟨z, i, c, hx.1, hy.1, le_sizeLine hz, e2, q (.str ⟨#[c]⟩) _ (Rep.o (d := .str _) rfl)⟩)
  | _ => cases e
def gLen : List D → Option D
  | [.str z] => if z.length ≤ 1000000 then some (.int (z.length : Nat)) else none
  | [a] => (itemsD a).map fun xs => .int (xs.length : Nat)
  | _ => none
theorem repOs1 {ca : Str → Addr} {F H : Hp} {a : D} {xs : List V} {f : Ct} (h : RepOs K ca F H [a] xs f) : ∃ x g, xs = [x] ∧ RepO K ca F H a x g := by
  obtain ⟨x, r, f1, f2, rfl, h1, ⟨rfl, _⟩, _⟩ := h
  exact ⟨x, f1, rfl, h1⟩
theorem repOs2 {ca : Str → Addr} {F H : Hp} {a b : D} {xs : List V} {f : Ct} (h : RepOs K ca F H [a, b] xs f) : ∃ x y g g', xs = [x, y] ∧ RepO K ca F H a x g ∧ RepO K ca F H b y g' := by
  obtain ⟨x, r, f1, f2, rfl, h1, h2, _⟩ := h
  obtain ⟨y, g', rfl, h3⟩ := repOs1 h2
  exact ⟨x, y, f1, g', rfl, h1, h3⟩
theorem sLen : CallS K (fun xs H Q => ∃ x n, xs = [x] ∧ LenV K x H n ∧ Q (.int n) H) gLen := by
  intro ca F H xs as d f1 Q sm hx e q
  unfold gLen at e
  split at e
  · rename_i z
    obtain ⟨x, g, rfl, h⟩ := repOs1 hx
    cases (show x = .str z from h.1)
    by_cases c : z.length ≤ 1000000
    · rw [if_pos c] at e; cases e
      exact ⟨_, z.length, rfl, ⟨le_sizeLine c, rfl⟩, q (.int _) _ (Rep.o (d := .int _) rfl)⟩
    · rw [if_neg c] at e; cases e
  · rename_i a _
    obtain ⟨x, g, rfl, h⟩ := repOs1 hx
    cases ei : itemsD a with
    | none => rw [ei] at e; cases e
    | some ys =>
      rw [ei] at e
      cases (show some (D.int (ys.length : Nat)) = some d from e)
      obtain ⟨p, vs, g, rfl, h1, h2⟩ := seq_of sm h ei
      refine ⟨_, ys.length, rfl, ?_, q (.int _) _ (Rep.o (d := .int _) rfl)⟩
      rcases h1 with h1 | h1
      · exact .inl ⟨vs, h1, h2.length.symm⟩
      · exact .inr ⟨vs, h1, h2.length.symm⟩
  · cases e

/-! ### abs, min, max -/
def gAbs : List D → Option D
  | [.int i] => some (.int (if i < 0 then -i else i))
  | _ => none
def gMin2 : List D → Option D
  | [.int i, .int j] => some (.int (if j < i then j else i))
  | _ => none
def gMax2 : List D → Option D
  | [.int i, .int j] => some (.int (if j > i then j else i))
  | _ => none
theorem sMin2 : CallS K (fun xs H Q => ∃ i j, xs = [.int i, .int j] ∧ Q (.int (if j < i then j else i)) H) gMin2 := by
  intro ca F H xs as d f1 Q sm hx e q
  unfold gMin2 at e
  split at e
  · rename_i i j
    cases e
    obtain ⟨x, y, g, g', rfl, h, h'⟩ := repOs2 hx
    cases (show x = .int i from h.1)
    cases (show y = .int j from h'.1)
    exact ⟨i, j, rfl, q (.int _) _ (Rep.o (d := .int _) rfl)⟩
  · cases e

theorem sMax2 : CallS K (fun xs H Q => ∃ i j, xs = [.int i, .int j] ∧ Q (.int (if j > i then j else i)) H) gMax2 := by
  intro ca F H xs as d f1 Q sm hx e q
  unfold gMax2 at e
  split at e
  · rename_i i j
    cases e
    obtain ⟨x, y, g, g', rfl, h, h'⟩ := repOs2 hx
    cases (show x = .int i from h.1)
    cases (show y = .int j from h'.1)
    exact ⟨i, j, rfl, q (.int _) _ (Rep.o (d := .int _) rfl)⟩
  · cases e

/-- the ints of a list of ints -/
def intsOf : List D → Option (List Int)
  | [] => some []
  | .int i :: r => (intsOf r).map (i :: ·)
  | _ => none
theorem ints_map : ∀ ns : List Int, intsOf (ns.map D.int) = some ns
  | [] => rfl
  | i :: r => by show (intsOf (r.map D.int)).map (i :: ·) = _; rw [ints_map r]; rfl
def minI : Int → List Int → Int
  | m, [] => m
  | m, x :: xs => minI (if x < m then x else m) xs
def maxI : Int → List Int → Int
  | m, [] => m
  | m, x :: xs => maxI (if m < x then x else m) xs
theorem minI_le : ∀ (m : Int) (xs : List Int), minI m xs ≤ m ∧ (∀ x ∈ xs, minI m xs ≤ x) ∧ (minI m xs = m ∨ minI m xs ∈ xs)
  | m, [] => ⟨Int.le_refl _, by simp, .inl rfl⟩
  | m, x :: xs => by
    obtain ⟨h1, h2, h3⟩ := minI_le (if x < m then x else m) xs
    show minI (if x < m then x else m) xs ≤ m ∧ (∀ y ∈ x :: xs, minI (if x < m then x else m) xs ≤ y) ∧ (minI (if x < m then x else m) xs = m ∨ minI (if x < m then x else m) xs ∈ x :: xs)
    have a0 : (if x < m then x else m) ≤ m ∧ (if x < m then x else m) ≤ x := by split <;> omega
    have a : minI (if x < m then x else m) xs ≤ m ∧ minI (if x < m then x else m) xs ≤ x := ⟨Int.le_trans h1 a0.1, Int.le_trans h1 a0.2⟩
    refine ⟨a.1, fun y hy => ?_, ?_⟩
    · rcases List.mem_cons.mp hy with rfl | hy
      · exact a.2
      · exact h2 y hy
    · rcases h3 with h3 | h3
      · rw [h3]
        split
        · exact .inr List.mem_cons_self
        · exact .inl rfl
      · exact .inr (List.mem_cons_of_mem _ h3)
theorem maxI_le : ∀ (m : Int) (xs : List Int), m ≤ maxI m xs ∧ (∀ x ∈ xs, x ≤ maxI m xs) ∧ (maxI m xs = m ∨ maxI m xs ∈ xs)
  | m, [] => ⟨Int.le_refl _, by simp, .inl rfl⟩
  | m, x :: xs => by
    obtain ⟨h1, h2, h3⟩ := maxI_le (if m < x then x else m) xs
    show m ≤ maxI (if m < x then x else m) xs ∧ (∀ y ∈ x :: xs, y ≤ maxI (if m < x then x else m) xs) ∧ (maxI (if m < x then x else m) xs = m ∨ maxI (if m < x then x else m) xs ∈ x :: xs)
    have a0 : m ≤ (if m < x then x else m) ∧ x ≤ (if m < x then x else m) := by split <;> omega
    have a : m ≤ maxI (if m < x then x else m) xs ∧ x ≤ maxI (if m < x then x else m) xs := ⟨Int.le_trans a0.1 h1, Int.le_trans a0.2 h1⟩
    refine ⟨a.1, fun y hy => ?_, ?_⟩
    · rcases List.mem_cons.mp hy with rfl | hy
      · exact a.2
      · exact h2 y hy
    · rcases h3 with h3 | h3
      · rw [h3]
        split
        · exact .inr List.mem_cons_self
        · exact .inl rfl
      · exact .inr (List.mem_cons_of_mem _ h3)
def lstD : D → Option (List D)
  | .lst _ xs => some xs
  | .cst xs => some xs
  | _ => none
theorem lst_of {ca : Str → Addr} {F H : Hp} {a : D} {x : V} {f : Ct} {xs : List D} (sm : Same F H) (h : RepO K ca F H a x f) (e : lstD a = some xs) : ∃ p vs g, x = .ref p ∧ SqL K H p vs ∧ RepOs K ca F H xs vs g := by
  cases a with
  | cst ds =>
    cases (show some ds = some xs from e)
    obtain ⟨⟨a, vs, rfl, h1, h2⟩, _⟩ := h
    exact ⟨a, vs, _, rfl, sm.seq h1, h2.os⟩
  | lst m ds =>
    cases (show some ds = some xs from e)
    cases m with
    | true =>
      obtain ⟨a, vs, g, rfl, h1, h2, _⟩ := h
      exact ⟨a, vs, g, rfl, sqOf h1, h2⟩
    | false =>
      obtain ⟨⟨a, vs, rfl, h1, h2⟩, _⟩ := h
      exact ⟨a, vs, _, rfl, sqOf (sm _ _ h1), h2.os⟩
  | _ => cases e
def gMinL : List D → Option D
  | [a] => match (lstD a).bind intsOf with
    | some (m :: r) => some (.int (minI m r))
    | _ => none
  | _ => none
def gMaxL : List D → Option D
  | [a] => match (lstD a).bind intsOf with
    | some (m :: r) => some (.int (maxI m r))
    | _ => none
  | _ => none
def gSum : List D → Option D
  | [a] => match (lstD a).bind intsOf with
    | some ns => some (.int ns.sum)
    | _ => none
  | _ => none
/-- the boolsOf of a list of boolsOf -/
def boolsOf : List D → Option (List Bool)
  | [] => some []
  | .bl i :: r => (boolsOf r).map (i :: ·)
  | _ => none
theorem bools_map : ∀ ns : List Bool, boolsOf (ns.map D.bl) = some ns
  | [] => rfl
  | i :: r => by show (boolsOf (r.map D.bl)).map (i :: ·) = _; rw [bools_map r]; rfl
theorem repOs_bools {ca : Str → Addr} {F H : Hp} : ∀ {ds : List D} {vs : List V} {f : Ct} {ns : List Bool}, RepOs K ca F H ds vs f → boolsOf ds = some ns → vs = ns.map V.bl
  | [], vs, f, ns, h, e => by
    cases (show some [] = some ns from e)
    exact h.1
  | d :: r, vs, f, ns, h, e => by
    obtain ⟨v, r', f1, f2, h1, h2, h3, _⟩ := h
    cases d with
    | bl i =>
      have e' : (boolsOf r).map (i :: ·) = some ns := e
      cases e2 : boolsOf r with
      | none => rw [e2] at e'; cases e'
      | some ms =>
        rw [e2] at e'
        cases (show some (i :: ms) = some ns from e')
        rw [h1, repOs_bools h3 e2, (show v = .bl i from h2.1)]
        rfl
    | _ => cases e
def gAll : List D → Option D
  | [a] => match (lstD a).bind boolsOf with
    | some ns => some (.bl (ns.all id))
    | _ => none
  | _ => none
def gAny : List D → Option D
  | [a] => match (lstD a).bind boolsOf with
    | some ns => some (.bl (ns.any id))
    | _ => none
  | _ => none
theorem sAny : CallS K (rAny K) gAny := by
  intro ca F H xs as d f1 Q sm hx e q
  unfold gAny at e
  split at e
  · rename_i a
    split at e
    · rename_i ns e1
      cases e
      obtain ⟨x, g, rfl, h⟩ := repOs1 hx
      obtain ⟨ds, e2, e3⟩ := bind_some e1
      obtain ⟨p, vs, g, rfl, h1, h2⟩ := lst_of sm h e2
      exact ⟨p, ns, rfl, by rw [← repOs_bools h2 e3]; exact h1, q (.bl _) _ (Rep.o (d := .bl _) rfl)⟩
    · cases e
  · cases e

/-! ### isinstance -/
def tyOfD : D → Option String
  | .non => none | .bl _ => some "bool" | .int _ => some "int" | .str _ => some "str"
  | .tup _ => some "tuple" | .lst _ _ => some "list" | .cst _ => some "list" | .ty _ => none | .obj _ _ _ _ => none | .val _ => none | .tpo _ => some "tuple" | .dct _ _ _ => none
def isiT (t u : String) : Option Bool := if t = u then some true else if t = "bool" ∧ u = "int" then some true else if t ∈ ["bool", "int", "str", "tuple", "list"] ∧ u ∈ ["bool", "int", "str", "tuple", "list"] then some false else none
def gIsi : List D → Option D
  | [a, .ty u] => match tyOfD a with
    | some t => if t ∈ ["bool", "int", "str", "tuple", "list"] ∧ u ∈ ["bool", "int", "str", "tuple", "list"] then some (.bl (decide (t = u) || (decide (t = "bool") && decide (u = "int")))) else none
    | none => none
  | _ => none
/-! ### in -/
def flatD : D → Bool
  | .non => true | .bl _ => true | .int _ => true | .str _ => true | _ => false
def toV : D → V
  | .non => .non | .bl b => .bl b | .int i => .int i | .str s => .str s | _ => .non
theorem flat_of {ca : Str → Addr} {F H : Hp} {a : D} {x : V} {f : Ct} (h : RepO K ca F H a x f) (e : flatD a = true) : x = toV a ∧ flatV x = true := by
  cases a with
  | non => cases (show x = .non from h.1); exact ⟨rfl, rfl⟩
  | bl b => cases (show x = .bl b from h.1); exact ⟨rfl, rfl⟩
  | int b => cases (show x = .int b from h.1); exact ⟨rfl, rfl⟩
  | str b => cases (show x = .str b from h.1); exact ⟨rfl, rfl⟩
  | _ => cases e
theorem flats_of {ca : Str → Addr} {F H : Hp} : ∀ {ds : List D} {vs : List V} {f : Ct}, RepOs K ca F H ds vs f → ds.all flatD = true → vs = ds.map toV ∧ vs.all flatV = true
  | [], vs, f, h, e => by cases (show vs = [] from h.1); exact ⟨rfl, rfl⟩
  | d :: ds, vs, f, ⟨v, r, f1, f2, h1, h2, h3, _⟩, e => by
    rw [List.all_cons, Bool.and_eq_true] at e
    obtain ⟨k1, k2⟩ := flat_of h2 e.1
    obtain ⟨k3, k4⟩ := flats_of h3 e.2
    subst h1
    refine ⟨by rw [List.map_cons, ← k1, ← k3], ?_⟩
    rw [List.all_cons, k2, k4]; rfl
def gIn (neg : Bool) (a b : D) : Option D := match itemsD b with
  | some xs => if flatD a = true ∧ xs.all flatD = true then some (.bl (if neg then !inV (toV a) (xs.map toV) else inV (toV a) (xs.map toV))) else none
  | none => none
theorem sIn {neg : Bool} : OpS K (rIn K neg) (gIn neg) := by
  intro ca F H x y a b d f1 f2 Q sm hx hy e q
  unfold gIn at e
  cases ei : itemsD b with
  | none => rw [ei] at e; cases e
  | some xs =>
    rw [ei] at e
    by_cases c : flatD a = true ∧ xs.all flatD = true
    · simp only [c, and_self, if_true] at e
      cases e
      obtain ⟨p, vs, g, rfl, h1, h2⟩ := seq_of sm hy ei
      obtain ⟨k1, k2⟩ := flat_of hx c.1
      obtain ⟨k3, k4⟩ := flats_of h2 c.2
      refine ⟨p, vs, rfl, h1, k2, k4, ?_⟩
      rw [k1, k3]
      exact q (.bl _) _ (Rep.o (d := .bl _) rfl)
    · simp only [c, if_false] at e; cases e
/-- a sign in a text -/
def gInS (neg : Bool) (a b : D) : Option D := match a, b with
  | .str c, .str z => match c.cps.toList with
    | [k] => some (.bl (if neg then !decide (k ∈ z.cps.toList) else decide (k ∈ z.cps.toList)))
    | _ => none
  | _, _ => none
end
end Bn

/-! Append, slices, join, the module's constants. -/
namespace Bn
open PySem PySem.Spec PyProof.Rows L2
section
variable {X : Cx} {B : Bx} {W : WX}
def sApp (i : Nat) (m : ME) : MS := fun τ => match τ.getD i none with
  | some (.lst true _) => (m τ).s fun d τ1 => (match τ1.getD i none with
    | some (.lst true es) => if es.length < 1000000 then .nx (τ1.set i (some (.lst true (es ++ [d])))) else .bad
    | _ => .bad)
  | _ => .bad
theorem s_app {i : Nat} {o e : Expr} {apos cpos pos : Pos} {m : ME} (ho : PE X o (tVar i)) (he : PE X e (rdE X.K B W m))
    (hbase : attributeBase o "append" X.env (eval o X.env) = eval o X.env := by rfl)
    (hfew : ((backTo cpos (starEach [e] X.env)).all (fun x => !x.1) && (backToKw cpos (keywordEach [] X.env)).all (fun x => x.1.isSome)
      && decide ([e].length + ([] : List Keyword).length + (if ([] : List Keyword).isEmpty then 0 else 1) < 30)) = true := by rfl)
    (hline : (apos.endLine == cpos.line) = true := by rfl) (hs : starEach [e] X.env = (false, eval e X.env) :: starEach [] X.env := by rfl) (hplain : (backTo cpos (starEach [] X.env)).any (·.1) = false := by rfl)
    (hsw : swapsWith (.Call (.Attribute o "append" apos) [e] [] cpos) none pos.line X.env = pure false := by rfl) : PS X (.Expr (.Call (.Attribute o "append" apos) [e] [] cpos) pos) (rdS X.K B W (sApp i m)) :=
  PS.imp (ps_expr (pe_bm PySem.F.plainAttrs_list PySem.F.slot_list_append PySem.F.type_list_append mt_append ho (pa_cons he pa_nil hs) hbase hfew hline hs hplain) hsw) fun D σ H ⟨F, τ, vs, ds, s, p⟩ => by
    unfold sApp at p
    split at p
    · rename_i es0 e0
      obtain ⟨v, f, h1, a, us, g, rfl, h2, _⟩ := s.get (getD_some e0)
      refine ⟨.ref a, h1, .inl ⟨rfl, us, sqOf h2⟩, F, τ, vs, ds, s, post_imp (post_s (σ := σ) p) (fun d τ1 q y F1 H1 s1 => ?_) fun _ _ q => q⟩
      split at q
      · rename_i es e1
        have e1' := getD_some e1
        obtain ⟨v, k1, s2⟩ := s1.take e1'
        rw [h1] at k1
        cases k1
        by_cases hl : es.length < 1000000
        · rw [if_pos hl] at q
          obtain ⟨f, a', us', g, ea, hx, hg, _⟩ := s2.top
          cases ea
          refine ⟨a, us', y, rfl, rfl, hx, by rw [hg.length, sizeLine_eq]; omega, ?_⟩
          have s3 := s2.change (us := [y]) (ds := [d]) (ys := us' ++ [y]) (es2 := es ++ [d]) rfl hx fun g1 g2 r1 r2 => ⟨_, r1.append r2, fun b => Nat.le_refl _⟩
          have s4 := s3.putBack (i := i) (by rw [List.length_set]; exact (List.getElem?_eq_some_iff.mp e1').1) h1
          rw [List.set_set] at s4
          exact q σ F1 _ s4
        · rw [if_neg hl] at q; exact q.elim
      · exact q.elim
    · exact p.elim

/-! ### slices -/
def rdP (K : PySem.W.Frag) (B : Bx) (W : WX) (p : Env → R (Option Int)) : TO := fun σ H Q => ∃ F τ vs ds, StT K B F H σ τ vs ds ∧ post (fun o τ' => ∀ F' H', StT K B F' H' σ τ' vs ds → Q o H') (exW K B W σ vs ds) (p τ)
theorem PO.imp {e : Option Expr} {t t' : TO} (h : PO X e t) (k : ∀ σ H Q, t' σ H Q → t σ H Q) : PO X e t' := ⟨fun p s σ H Q I q => h.run p s σ H Q I (k _ _ _ q)⟩
def pNone : Env → R (Option Int) := fun τ => .ok none τ
def pSome (m : ME) : Env → R (Option Int) := fun τ => (m τ).bind fun d τ1 => match d with
  | .int i => .ok (some i) τ1
  | _ => .bad
theorem pe_none : PO X none (rdP X.K B W pNone) := PO.imp po_none fun σ H Q ⟨F, τ, vs, ds, s, k⟩ => k F H s
theorem pe_some {e : Expr} {m : ME} (h : PE X e (rdE X.K B W m)) : PO X (some e) (rdP X.K B W (pSome m)) := PO.imp (po_some h) fun σ H Q ⟨F, τ, vs, ds, s, k⟩ => by
  refine ⟨F, τ, vs, ds, s, post_imp (post_bind k) (fun d τ1 q v F1 H1 s1 => ?_) fun _ _ q => q⟩
  cases d with
  | int i => exact ⟨i, s1.topF rfl, q F1 H1 s1.pop⟩
  | _ => exact False.elim q
def cutL {α : Type} (xs : List α) (lo hi : Option Int) : List α := (xs.drop (HT.sIx xs.length 0 lo)).take (HT.sIx xs.length xs.length hi - HT.sIx xs.length 0 lo)
theorem RepL.drop {K : PySem.W.Frag} {ca : Str → Addr} {F : Hp} : ∀ {ds : List D} {vs : List V} (n : Nat), RepL K ca F ds vs → RepL K ca F (ds.drop n) (vs.drop n)
  | [], vs, n, h => by cases (show vs = [] from h); simp; exact rfl
  | d :: ds, vs, 0, h => h
  | d :: ds, _, n + 1, ⟨v, r, h1, h2, h3⟩ => by subst h1; exact h3.drop n
theorem RepL.take {K : PySem.W.Frag} {ca : Str → Addr} {F : Hp} : ∀ {ds : List D} {vs : List V} (n : Nat), RepL K ca F ds vs → RepL K ca F (ds.take n) (vs.take n)
  | [], vs, n, h => by cases (show vs = [] from h); simp; exact rfl
  | d :: ds, vs, 0, h => rfl
  | d :: ds, _, n + 1, ⟨v, r, h1, h2, h3⟩ => by subst h1; exact ⟨v, r.take n, rfl, h2, h3.take n⟩
theorem RepL.cut {K : PySem.W.Frag} {ca : Str → Addr} {F : Hp} {ds : List D} {vs : List V} (h : RepL K ca F ds vs) (lo hi : Option Int) : RepL K ca F (cutL ds lo hi) (cutV vs lo hi) := by
  unfold cutL cutV
  rw [h.length]
  exact (h.drop _).take _
def slR (d : D) (p r : Env → R (Option Int)) (f : D → Option Int → Option Int → Option D) (τ : Env) : R D := (p τ).bind fun lo τ1 => (r τ1).bind fun hi τ2 => match f d lo hi with
  | some x => .ok x τ2
  | none => .bad
def cutLd (d : D) (lo hi : Option Int) : Option D := match d with
  | .lst _ es => some (.lst true (cutL es lo hi))
  | .cst es => some (.lst true (cutL es lo hi))
  | _ => none
def cutSd (d : D) (lo hi : Option Int) : Option D := match d with
  | .str z => if z.length ≤ 1000000 then some (.str (cutS z lo hi)) else none
  | _ => none
def cutTd (d : D) (lo hi : Option Int) : Option D := match d with
  | .tup es => if HT.sIx es.length 0 lo = 0 ∧ HT.sIx es.length es.length hi = es.length then none else some (.tup (cutL es lo hi))
  | _ => none
def eSlice (f : D → Option Int → Option Int → Option D) (m : ME) (p r : Env → R (Option Int)) : ME := fun τ => (m τ).bind fun d τ1 => slR (freeze d) p r f τ1
theorem e_slice {e : Expr} {lo hi : Option Expr} {p2 pos : Pos} {m : ME} {p r : Env → R (Option Int)} {rd : V → Option Int → Option Int → Hp → VK → Prop} {f : D → Option Int → Option Int → Option D} (hr : SlR X rd)
    (hf : ∀ {F H σ τ v vs d ds l h x Q}, isFz d = true → f d l h = some x → StT X.K B F H σ τ (v :: vs) (d :: ds) → (∀ u F' H', StT X.K B F' H' σ τ (u :: vs) (x :: ds) → Q u H') → rd v l h H Q)
    (he : PE X e (rdE X.K B W m)) (hl : PO X lo (rdP X.K B W p)) (hu : PO X hi (rdP X.K B W r)) : PE X (.Subscript e (.Slice lo hi none p2) pos) (rdE X.K B W (eSlice f m p r)) :=
  PE.imp (pe_slice hr he hl hu) fun σ H Q ⟨F, τ, vs, ds, s, k⟩ => by
    refine ⟨F, τ, vs, ds, s, post_imp (post_bind k) (fun d τ1 q v F1 H1 s1 => ?_) fun _ _ q => q⟩
    obtain ⟨F2, s2⟩ := s1.freeze1
    refine ⟨F2, τ1, _, _, s2, post_imp (post_bind q) (fun l τ2 q F3 H3 s3 => ?_) fun c τ2 q F3 H3 s3 => q F3 H3 s3.pop⟩
    refine ⟨F3, τ2, _, _, s3, post_imp (post_bind q) (fun h τ3 q F4 H4 s4 => ?_) fun c τ2 q F3 H3 s3 => q F3 H3 s3.pop⟩
    cases ef : f (freeze d) l h with
    | none => rw [ef] at q; exact False.elim q
    | some x =>
      rw [ef] at q
      exact hf (freeze_fz d) ef s4 q
theorem e_sliceL {e : Expr} {lo hi : Option Expr} {p2 pos : Pos} {m : ME} {p r : Env → R (Option Int)} (he : PE X e (rdE X.K B W m)) (hl : PO X lo (rdP X.K B W p)) (hu : PO X hi (rdP X.K B W r)) : PE X (.Subscript e (.Slice lo hi none p2) pos) (rdE X.K B W (eSlice cutLd m p r)) :=
  e_slice sl_list (fun {F H σ τ v vs d ds l h x Q} z e s k => by
    cases d with
    | lst b es =>
      cases b with
      | true => cases z
      | false =>
        cases (show some (D.lst true (cutL es l h)) = some x from e)
        obtain ⟨a, us, ev, h1, h2⟩ := s.topF rfl
        subst ev
        exact ⟨a, us, rfl, sqOf (s.same _ _ h1), fun np hnp => k _ _ _ (((s.pop).pushL (h2.cut l h)).newLst (h2.cut l h).length hnp)⟩
    | cst es =>
      cases (show some (D.lst true (cutL es l h)) = some x from e)
      obtain ⟨a, us, ev, h1, h2⟩ := s.topF rfl
      subst ev
      exact ⟨a, us, rfl, s.same.seq h1, fun np hnp => k _ _ _ (((s.pop).pushL (h2.cut l h)).newLst (h2.cut l h).length hnp)⟩
    | _ => cases e) he hl hu
/-! ### join -/
def strsOf : List D → Option (List Str)
  | [] => some []
  | .str i :: r => (strsOf r).map (i :: ·)
  | _ => none
def eJoin (a b : ME) : ME := fun τ => (a τ).bind fun x τ1 => match x with
  | .str z => (b τ1).bind fun y τ2 => (match (itemsD y).bind strsOf with
    | some ys => if (ys.map (·.length)).sum + ys.length * z.length ≤ 1000000 then .ok (.str (Txt.join z ys)) τ2 else .bad
    | none => .bad)
  | _ => .bad
/-! ### the module's constants -/
structure Kc (K : PySem.W.Frag) (mg : Str → Option Value) (x : Str) (d : D) : Prop where
  ex : ∃ v u, mg x = some u ∧ RelV v u ∧ ∀ ca F, Rep K ca F d v
end
end Bn

/-! try .. except X as e: a suite that asks isinstance of e. -/
namespace Bn
open PySem PySem.Spec PyProof.Rows L2
abbrev Bx.withE (B : Bx) (i : Nat) (a : Addr) : Bx := { B with io := (i, .ref a) :: B.io }
def endAs (i : Nat) (r : SR) : SR := match r with
  | .nx τ => .nx (τ.set i none)
  | .rt d τ => .rt d τ
  | .bk τ => .bk (τ.set i none)
  | .ct τ => .ct (τ.set i none)
  | _ => .bad
def tryAs (i : Nat) (o : Option Bool) (c : Str) (τ : Env) (su : Str → MS) : SR := match o with
  | some true => if i < τ.length then endAs i (su c (τ.set i none)) else .bad
  | some false => .ex c τ
  | none => .bad
def sTryAs (i : Nat) (sub : Str → Option Bool) (b : MS) (su : Str → MS) : MS := fun τ => match b τ with
  | .ex c τ' => tryAs i (sub c) c τ' su
  | .nx τ' => .nx τ'
  | .rt d τ' => .rt d τ'
  | .bk τ' => .bk τ'
  | .ct τ' => .ct τ'
  | .bad => .bad
section
variable {X : Cx} {B : Bx} {W : WX}
theorem StT.withE {K : PySem.W.Frag} {F H : Hp} {σ : L2.St} {τ : Env} {vs : List V} {ds : List D} {i : Nat} {a : Addr} (s : StT K B F H σ τ vs ds) (hi : i < τ.length) (hf : ioFree B i) : StT K (B.withE i a) F H (σ.set i (some (.ref a))) (τ.set i none) vs ds := by
  have s1 := s.forget (i := i)
  have io : IoOk B σ := by obtain ⟨_, _, _, _, _, io⟩ := s; exact io
  have hl : σ.length = τ.length := by obtain ⟨_, _, A, _⟩ := s; exact A.length
  have s2 : StT K B F H (σ.set i (some (.ref a))) (τ.set i none) vs ds := s1.reset (by simp) (fun j d h => by
    have : j ≠ i := fun e => by
      subst e
      rw [List.getElem?_set_self hi] at h; cases h
    rw [List.getElem?_set_ne this.symm]) fun p hp => by rw [List.getElem?_set_ne (fun e => hf p hp e.symm)]; exact io p hp
  obtain ⟨f1, f2, A, b, w, io2⟩ := s2
  refine ⟨f1, f2, A, b, ⟨w.nd, w.dF, w.dR, w.sF, w.sR, w.s0, w.fr⟩, fun p hp => ?_⟩
  rcases List.mem_cons.mp hp with rfl | hp
  · rw [List.getElem?_set_self (by omega)]
  · exact io2 p hp
def eIs (o : Option Bool) : ME := fun τ => match o with
  | some b => .ok (.bl b) τ
  | none => .bad
end
end Bn
namespace Bn
open PySem PySem.Spec PyProof.Rows L2
/-- list(xs): a new list -/
def eLstOf (m : MA) : ME := fun τ => (m τ).bind fun ds τ1 => match freezeL ds with
  | [.lst _ es] => .ok (.lst true es) τ1
  | [.tup es] => .ok (.lst true es) τ1
  | _ => .bad
theorem e_lstOf {X : Cx} {B : Bx} {W : WX} {x : Str} {p pos : Pos} {e : Expr} {m : MA} (hg : Gl X x) (hm : X.mg x = none) (hv : bootBuiltins x = some (.type "list")) (ha : PA X [e] (rdA X.K B W m)) (hn : x ≠ "__name__" := by decide) (hdb : (x == ("__debug__" : Str)) = false := by decide)
    (he : starEach [e] X.env = (false, eval e X.env) :: starEach [] X.env := by rfl) (hpl : (backTo pos (starEach [] X.env)).any (·.1) = false := by rfl) : PE X (.Call (.Name x p) [e] [] pos) (rdE X.K B W (eLstOf m)) := PE.imp (pe_callTy call_list_of hg hm hv ha hn hdb he hpl) fun σ H Q ⟨F, τ, vs, ds, s, p⟩ => by
  refine ⟨F, τ, vs, ds, s, post_imp (post_bind p) (fun es τ1 q us F1 H1 hl s1 => ?_) fun _ _ q => q⟩
  obtain ⟨F2, sm, rl, s2⟩ := s1.freeze hl
  match h : freezeL es, q, rl with
  | [.lst b xs], q, rl =>
    obtain ⟨v, r, rfl, r1, r2⟩ := rl
    cases (show r = [] from r2)
    cases b with
    | true => exact r1.elim
    | false =>
      obtain ⟨a, ws, rfl, h1, h2⟩ := r1
      exact ⟨a, ws, rfl, .inl (sqOf (s2.same _ _ h1)), fun l hl => q _ _ _ ((s2.pushL h2).newLst h2.length hl)⟩
  | [.tup xs], q, rl =>
    obtain ⟨v, r, rfl, r1, r2⟩ := rl
    cases (show r = [] from r2)
    obtain ⟨a, ws, rfl, h1, h2⟩ := r1
    exact ⟨a, ws, rfl, .inr (sqT_same s2.same h1), fun l hl => q _ _ _ ((s2.pushL h2).newLst h2.length hl)⟩
end Bn

/-! Objects of own classes that never change once they are made; lists joined. -/
namespace Bn
open PySem PySem.Spec PyProof.Rows L2
/-! ### __init__: one attribute after the other -/
def rdIn (K : PySem.W.Frag) (C : Addr) : List (Str × Nat) → TS
  | [] => fun D σ H => D.nx σ H
  | (f, i) :: r => fun D σ H => ∃ a dx fs y, σ[0]? = some (some (V.ref a)) ∧ σ[i]? = some (some y) ∧ H a = some (.ins C dx fs) ∧ NoAttr K C f ∧ fs.length < 1000 ∧ rdIn K C r D σ (upd H a (.ins C dx (putF f y fs)))
section
variable {X : Cx} {C : Addr}
end
def spI (ca : Str → Addr) (c : Str) (ns : List Str) : Sp := fun vs H Q _ => ∃ a dx ws, vs = .ref a :: ws ∧ ws.length = ns.length ∧ H a = some (.ins (ca c) dx []) ∧ Q .non (upd H a (.ins (ca c) dx (ns.zip ws)))
section
variable {P : Program} {w : World} {K : PySem.W.Frag} {mg : Str → Option Value} {base : Heap} {ca : Str → Addr}
/-- a class that can be made -/
structure MkO (P : Program) (w : World) (K : PySem.W.Frag) (mg : Str → Option Value) (base : Heap) (ca : Str → Addr) (x : Str) (ns : List Str) : Prop where
  ex : ∃ f fd ps, Mk K (ca x) f ∧ mg x = some (.ref (ca x)) ∧ Binds K fd ps [] ∧ FnOk P w K mg base (L2.CX P w) 1 f fd ps (spI ca x ns)
/-- a method -/
structure MFo (P : Program) (w : World) (K : PySem.W.Frag) (mg : Str → Option Value) (base : Heap) (ca : Str → Addr) (j : Nat) (c m : Str) (g : List D → CR) : Prop where
  ex : ∃ k f fd ps, k ≤ j ∧ Meth K (ca c) m f ∧ Binds K fd ps [] ∧ FnOk P w K mg base (L2.CX P w) k f fd ps (spP K ca g)
  cl : Cls K (ca c)
theorem MFo.mono {i j : Nat} {c m : Str} {g : List D → CR} (h : MFo P w K mg base ca i c m g) (k : i ≤ j) : MFo P w K mg base ca j c m g := by
  obtain ⟨⟨k', f, fd, ps, h1, h2⟩, cl⟩ := h
  exact ⟨⟨k', f, fd, ps, Nat.le_trans h1 k, h2⟩, cl⟩
def MAll (P : Program) (w : World) (K : PySem.W.Frag) (mg : Str → Option Value) (base : Heap) (ca : Str → Addr) (j : Nat) (m : Str) : List (Str × (List D → CR)) → Prop
  | [] => True
  | p :: r => MFo P w K mg base ca j p.1 m p.2 ∧ MAll P w K mg base ca j m r
theorem MAll.get {j : Nat} {m : Str} : ∀ {As : List (Str × (List D → CR))} {c : Str} {g : List D → CR}, MAll P w K mg base ca j m As → As.lookup c = some g → MFo P w K mg base ca j c m g
  | [], _, _, _, e => by cases e
  | (c', g') :: r, c, g, ⟨h1, h2⟩, e => by
    rw [List.lookup_cons] at e
    by_cases q : c = c'
    · subst q
      simp at e; subst e; exact h1
    · have q' : (c == c') = false := by simpa using q
      rw [q'] at e
      exact h2.get e
end
def eMake (c : Str) (ns : List Str) (m : MA) : ME := fun τ => (m τ).bind fun ds τ1 => if ds.length = ns.length then .ok (.obj false c ns (freezeL ds)) τ1 else .bad
section
variable {X : Cx} {B : Bx} {W : WX}
/-! ### attributes -/
def lookD (f : Str) : List Str → List D → Option D
  | n :: ns, x :: xs => if f = n then some x else lookD f ns xs
  | _, _ => none
def gFld (c f : Str) : D → Option D
  | .obj _ c' ns xs => if c' = c then lookD f ns xs else none
  | _ => none
/-! ### a method's call -/
def tMethX (C : Addr) (m : Str) (sp : Sp) (E : L2.St → XK) (ta : TE) (t : TA) : TE := fun σ H Q => ta σ H fun x H1 => ∃ a dx fs, x = .ref a ∧ H1 a = some (.ins C dx fs) ∧ fs.lookup m = none ∧ t σ H1 fun vs H2 => sp (x :: vs) H2 Q (E σ)
/-- the classes that have it, each with its function -/
def eMeth (As : List (Str × (List D → CR))) (m : Str) (mo : ME) (ma : MA) : ME := fun τ => (mo τ).bind fun d τ1 => match d with
  | .obj false c ns xs => match As.lookup c with
    | some g => if ns.contains m = true then .bad else (ma τ1).bind fun ds τ2 => ofC (g (.obj false c ns xs :: freezeL ds)) τ2
    | none => .bad
  | _ => .bad
/-! ### isinstance of an own class -/
structure IsO (K : PySem.W.Frag) (C A : Addr) (b : Bool) : Prop where
  cl : Cls K C
  ha : PySem.W.findIn K (.ref C) "__class__" = some (some (.builtin "object.__class__"))
  hn : PySem.W.specialIn K (.builtin "object.__class__") "__get__" = some (some (.builtin "getset_descriptor.__get__"))
  htk : PySem.W.takesIn K (.builtin "object.__class__") = some true
  hm : PySem.W.mroIn K C (.type "object") = some true
  ko : PySem.W.kitOne K (.ref C) (.ref A) = some b
def zIsO (tbl : Str → Option Bool) (m : MZ) : MZ := fun τ => (m τ).bind fun d => match d with
  | .obj _ c _ _ => (tbl c).map D.bl
  | _ => none
/-! ### lists joined -/
theorem RepL.append {K : PySem.W.Frag} {ca : Str → Addr} {F : Hp} : ∀ {xs ys : List D} {us vs : List V}, RepL K ca F xs us → RepL K ca F ys vs → RepL K ca F (xs ++ ys) (us ++ vs)
  | [], _, _, _, h, k => by cases (show _ = [] from h); exact k
  | x :: xs, ys, _, vs, ⟨v, r, e, h1, h2⟩, k => by subst e; exact ⟨v, r ++ vs, rfl, h1, h2.append k⟩
def catD : D → D → Option D
  | .lst false xs, .lst false ys => if xs.length + ys.length ≤ 1000000 then some (.lst true (xs ++ ys)) else none
  | _, _ => none
def slE' (o : Option D) (τ : Env) : R D := match o with
  | some x => .ok x τ | none => .bad
def eCat (a b : ME) : ME := fun τ => (a τ).bind fun x τ1 => (b τ1).bind fun y τ2 => slE' (catD (freeze x) (freeze y)) τ2
theorem e_cat {a b : Expr} {pos : Pos} {m n : ME} (ha : PE X a (rdE X.K B W m)) (hb : PE X b (rdE X.K B W n)) : PE X (.BinOp a .Add b pos) (rdE X.K B W (eCat m n)) := PE.imp (pe_op op_cat ha hb) fun σ H Q h => by
  obtain ⟨F, τ, vs, ds, s, p⟩ := h
  refine ⟨F, τ, vs, ds, s, post_imp (post_bind p) (fun x τ1 q v F1 H1 s1 => ⟨F1, τ1, _, _, s1, post_imp (post_bind q) (fun y τ2 q w F2 H2 s2 => ?_) fun c τ2 q F2 H2 s2 => q F2 H2 s2.pop⟩) fun _ _ q => q⟩
  obtain ⟨F3, sm, ⟨w', r', e1, r1, ⟨v', r'', e2, r2, _⟩⟩, s3⟩ := StT.freeze (us := [w, v]) (es := [y, x]) s2 rfl
  cases e1; cases e2
  cases ex : freeze x with
  | lst m1 xs =>
    cases ey : freeze y with
    | lst m2 ys =>
      rw [ex, ey] at q
      rw [ex] at r2; rw [ey] at r1
      cases m1 with
      | true => exact q.elim
      | false =>
        cases m2 with
        | true => exact q.elim
        | false =>
          replace q : post _ _ (slE' (if xs.length + ys.length ≤ 1000000 then some (.lst true (xs ++ ys)) else none) τ2) := q
          by_cases z : xs.length + ys.length ≤ 1000000
          · rw [if_pos z] at q
            obtain ⟨a1, us1, rfl, k1, k2⟩ := r2
            obtain ⟨a2, us2, rfl, l1, l2⟩ := r1
            refine ⟨a1, a2, us1, us2, rfl, rfl, s3.same _ _ k1, s3.same _ _ l1, ?_, fun p hp => ?_⟩
            · have h1 := k2.length
              have h2 := l2.length
              exact le_sizeLine (by omega)
            · have k3 := RepL.append k2 l2
              exact q _ _ _ ((s3.pushL k3).newLst k3.length hp)
          · rw [if_neg z] at q; exact q.elim
    | _ => rw [ex, ey] at q; cases xs <;> first | exact q.elim | (revert q; cases m1 <;> exact fun q => q.elim)
  | _ => rw [ex] at q; exact q.elim
end
end Bn

/-! A list lent to a call; an item set anew; `in` over lists of data. -/
namespace Bn
open PySem PySem.Spec PyProof.Rows L2
mutual
/-- holds nothing that could be a list or an object handed in -/
def clean : D → Bool
  | .non => true | .bl _ => true | .int _ => true | .str _ => true | .ty _ => true
  | .tup xs => cleanL xs
  | .lst m xs => m && cleanL xs
  | .cst _ => false
  | .obj m _ _ xs => m && cleanL xs
  | .val _ => false
  | .tpo xs => cleanL xs
  | .dct m _ xs => m && cleanL xs
def cleanL : List D → Bool
  | [] => true
  | x :: xs => clean x && cleanL xs
end
section
variable {K : PySem.W.Frag} {ca : Str → Addr} {F F' H H' : Hp}
mutual
theorem Rep.back (k : ∀ a xs, SqT K F a xs → SqT K F' a xs) : ∀ (d : D) (v : V), clean d = true → Rep K ca F d v → Rep K ca F' d v
  | .non, _, _, h => h
  | .bl _, _, _, h => h
  | .int _, _, _, h => h
  | .str _, _, _, h => h
  | .ty _, _, _, h => h
  | .tup ds, v, c, h => by
    obtain ⟨a, vs, h1, h2, h3⟩ := h
    exact ⟨a, vs, h1, k a vs h2, RepL.back k ds vs c h3⟩
  | .lst true _, _, _, h => h.elim
  | .lst false xs, _, c, _ => by cases (show (false && cleanL xs) = true from c)
  | .cst _, _, c, _ => by cases (show false = true from c)
  | .obj true _ _ _, _, _, h => h.elim
  | .obj false _ _ xs, _, c, _ => by cases (show (false && cleanL xs) = true from c)
  | .val _, _, c, _ => by cases (show false = true from c)
  | .tpo _, _, _, h => h.elim
  | .dct true _ _, _, _, h => h.elim
  | .dct false _ xs, _, c, _ => by cases (show (false && cleanL xs) = true from c)
theorem RepL.back (k : ∀ a xs, SqT K F a xs → SqT K F' a xs) : ∀ (ds : List D) (vs : List V), cleanL ds = true → RepL K ca F ds vs → RepL K ca F' ds vs
  | [], _, _, h => h
  | d :: ds, _, c, ⟨v, r, e, h1, h2⟩ => by
    have c' : (clean d && cleanL ds) = true := c
    rw [Bool.and_eq_true] at c'
    exact ⟨v, r, e, Rep.back k d v c'.1 h1, RepL.back k ds r c'.2 h2⟩
end
mutual
theorem RepO.back (k : ∀ a xs, SqT K F a xs → SqT K F' a xs) : ∀ (d : D) (v : V) (f : Ct), clean d = true → RepO K ca F H d v f → RepO K ca F' H d v f
  | .lst true ds, v, f, c, h => by
    obtain ⟨a, vs, g, h1, h2, h3, h4⟩ := h
    exact ⟨a, vs, g, h1, h2, RepOs.back k ds vs g (by have c' : (true && cleanL ds) = true := c; simpa using c') h3, h4⟩
  | .obj true _ ns ds, v, f, c, h => by
    obtain ⟨a, dx, fs, vs, g, h1, h2, h2', h2'', h3, h4⟩ := h
    exact ⟨a, dx, fs, vs, g, h1, h2, h2', h2'', RepOs.back k ds vs g (by have c' : (true && cleanL ds) = true := c; simpa using c') h3, h4⟩
  | .lst false _, v, f, c, h => ⟨Rep.back k _ v c h.1, h.2⟩
  | .obj false _ _ _, v, f, c, h => ⟨Rep.back k _ v c h.1, h.2⟩
  | .non, v, f, c, h => ⟨Rep.back k _ v c h.1, h.2⟩
  | .bl _, v, f, c, h => ⟨Rep.back k _ v c h.1, h.2⟩
  | .int _, v, f, c, h => ⟨Rep.back k _ v c h.1, h.2⟩
  | .str _, v, f, c, h => ⟨Rep.back k _ v c h.1, h.2⟩
  | .ty _, v, f, c, h => ⟨Rep.back k _ v c h.1, h.2⟩
  | .val _, v, f, c, h => ⟨Rep.back k _ v c h.1, h.2⟩
  | .tpo ds, v, f, c, h => by
    obtain ⟨a, vs, h1, h2, h3⟩ := h
    exact ⟨a, vs, h1, k a vs h2, RepOs.back k ds vs f c h3⟩
  | .dct true ks ds, v, f, c, h => by
    obtain ⟨a, vs, g, h1, h2, h2', h3, h4⟩ := h
    exact ⟨a, vs, g, h1, h2, h2', RepOs.back k ds vs g (by have c' : (true && cleanL ds) = true := c; simpa using c') h3, h4⟩
  | .dct false _ _, v, f, c, h => ⟨Rep.back k _ v c h.1, h.2⟩
  | .tup _, v, f, c, h => ⟨Rep.back k _ v c h.1, h.2⟩
  | .cst _, v, f, c, h => ⟨Rep.back k _ v c h.1, h.2⟩
theorem RepOs.back (k : ∀ a xs, SqT K F a xs → SqT K F' a xs) : ∀ (ds : List D) (vs : List V) (f : Ct), cleanL ds = true → RepOs K ca F H ds vs f → RepOs K ca F' H ds vs f
  | [], _, _, _, h => h
  | d :: ds, _, f, c, ⟨v, r, f1, f2, e, h1, h2, h3⟩ => by
    have c' : (clean d && cleanL ds) = true := c
    rw [Bool.and_eq_true] at c'
    exact ⟨v, r, f1, f2, e, RepO.back k d v f1 c'.1 h1, RepOs.back k ds r f2 c'.2 h2, h3⟩
end
/-- what is owned is a list or an object -/
def LsIn (H : Hp) (a : Addr) : Prop := (∃ xs, H a = some (.lst xs)) ∨ (∃ c dx fs, H a = some (.ins c dx fs)) ∨ ∃ kvs, H a = some (.dK kvs)
mutual
theorem RepO.kind : ∀ (d : D) (v : V) (f : Ct), RepO K ca F H d v f → ∀ a, 0 < f a → LsIn H a
  | .lst true ds, v, f, h, b, hb => by
    obtain ⟨a, vs, g, h1, h2, h3, h4⟩ := h
    by_cases e : b = a
    · subst e; exact .inl ⟨_, h2⟩
    · exact RepOs.kind ds vs g h3 b (by rw [h4, if_neg e] at hb; omega)
  | .obj true _ ns ds, v, f, h, b, hb => by
    obtain ⟨a, dx, fs, vs, g, h1, h2, h2', h2'', h3, h4⟩ := h
    by_cases e : b = a
    · subst e; exact .inr (.inl ⟨_, _, _, h2⟩)
    · exact RepOs.kind ds vs g h3 b (by rw [h4, if_neg e] at hb; omega)
  | .lst false _, v, f, h, b, hb => by rw [h.2] at hb; omega
  | .obj false _ _ _, v, f, h, b, hb => by rw [h.2] at hb; omega
  | .non, v, f, h, b, hb => by rw [h.2] at hb; omega
  | .bl _, v, f, h, b, hb => by rw [h.2] at hb; omega
  | .int _, v, f, h, b, hb => by rw [h.2] at hb; omega
  | .str _, v, f, h, b, hb => by rw [h.2] at hb; omega
  | .ty _, v, f, h, b, hb => by rw [h.2] at hb; omega
  | .val _, v, f, h, b, hb => by rw [h.2] at hb; omega
  | .tpo ds, v, f, h, b, hb => by
    obtain ⟨a, vs, h1, h2, h3⟩ := h
    exact RepOs.kind ds vs f h3 b hb
  | .dct true _ ds, v, f, h, b, hb => by
    obtain ⟨a, vs, g, h1, h2, h2', h3, h4⟩ := h
    by_cases e : b = a
    · subst e; exact .inr (.inr ⟨_, h2⟩)
    · exact RepOs.kind ds vs g h3 b (by rw [h4, if_neg e] at hb; omega)
  | .dct false _ _, v, f, h, b, hb => by rw [h.2] at hb; omega
  | .tup _, v, f, h, b, hb => by rw [h.2] at hb; omega
  | .cst _, v, f, h, b, hb => by rw [h.2] at hb; omega
theorem RepOs.kind : ∀ (ds : List D) (vs : List V) (f : Ct), RepOs K ca F H ds vs f → ∀ a, 0 < f a → LsIn H a
  | [], _, _, h, b, hb => by rw [h.2] at hb; omega
  | d :: ds, _, f, ⟨v, r, f1, f2, e, h1, h2, h3⟩, b, hb => by
    rw [h3] at hb
    by_cases q : 0 < f1 b
    · exact RepO.kind d v f1 h1 b q
    · exact RepOs.kind ds r f2 h2 b (by omega)
end
/-- the unchanging part while a call runs that is lent what f counts -/
def lend (F H : Hp) (f : Ct) : Hp := fun b => match F b with
  | some o => some o
  | none => if 0 < f b then H b else none
theorem lend_same (F H : Hp) (f : Ct) : Same F (lend F H f) := fun b x e => by
  unfold lend; rw [e]
theorem lend_at (sm : Same F H) {f : Ct} {b : Addr} (h : 0 < f b) : lend F H f b = H b := by
  unfold lend
  cases q : F b with
  | some o => exact (sm _ _ q).symm
  | none => exact if_pos h
end
section
variable {K : PySem.W.Frag} {B : Bx} {F H : Hp} {σ : L2.St} {τ : Env} {vs us : List V} {ds es : List D} {v : V} {d : D} {f : Ct}
/-- behind a call that was lent something: all is as it was -/
theorem StT.lent {F' H' : Hp} {g : Ct} (s : StT K B F H σ τ vs ds) (r : RepOs K B.ca F H es us f) (h1 : Same (lend F H f) F') (h2 : Same F' H') (h3 : Same H H') (hv : RepO K B.ca F' H' d v g) (h4 : ∀ a, g a ≤ 1) (h5 : ∀ a, 0 < g a → F' a = none ∧ H a = none)
    (h6 : ∀ a, F' a ≠ none → lend F H f a ≠ none ∨ H a = none) (hc : clean d = true) : ∃ F2, StT K B F2 H' σ τ (v :: vs) (d :: ds) := by
  classical
  have sm := lend_same F H f
  refine ⟨fun b => if F b = none ∧ 0 < f b then none else F' b, s.called (g := g) (fun b x e => ?_) (fun b x e => ?_) h3 (hv.back (fun a xs q => ?_) _ _ _ hc) h4 (fun a q => ⟨?_, (h5 a q).2⟩) fun a q => ?_⟩
  · show (if F b = none ∧ 0 < f b then none else F' b) = some x
    rw [if_neg (fun z => by rw [z.1] at e; cases e)]
    exact h1 _ _ (sm _ _ e)
  · replace e : (if F b = none ∧ 0 < f b then none else F' b) = some x := e
    split at e
    · cases e
    · exact h2 _ _ e
  · rcases q with q | q
    · refine .inl ?_
      have key : ∀ o, F' a = some o → (∀ ys, o ≠ .lst ys) → (∀ c dx fs, o ≠ .ins c dx fs) → (∀ kvs, o ≠ .dK kvs) → (fun b => if F b = none ∧ 0 < f b then none else F' b) a = some o := fun o ho n1 n2 n3 => by
        show (if F a = none ∧ 0 < f a then none else F' a) = some o
        rw [if_neg (fun z => ?_)]
        · exact ho
        · have e := h1 a
          rw [lend_at s.same z.2] at e
          rcases RepOs.kind _ _ _ r a z.2 with ⟨ys, hk⟩ | ⟨c, dx, fs, hk⟩ | ⟨kvs, hk⟩
          · have := e _ hk
            rw [ho] at this
            cases this
            exact n1 _ rfl
          · have := e _ hk
            rw [ho] at this
            cases this
            exact n2 _ _ _ rfl
          · have := e _ hk
            rw [ho] at this
            cases this
            exact n3 _ rfl
      rcases q with q | ⟨o, q⟩
      · exact .inl (key _ q (fun _ z => by cases z) (fun _ _ _ z => by cases z) (fun _ z => by cases z))
      · exact .inr ⟨o, key _ q (fun _ z => by cases z) (fun _ _ _ z => by cases z) (fun _ z => by cases z)⟩
    · exact .inr q
  · show (if F a = none ∧ 0 < f a then none else F' a) = none
    split
    · rfl
    · exact (h5 a q).1
  · replace q : (if F a = none ∧ 0 < f a then none else F' a) ≠ none := q
    by_cases z : F a = none ∧ 0 < f a
    · rw [if_pos z] at q; exact absurd rfl q
    · rw [if_neg z] at q
      rcases h6 a q with k | k
      · refine .inl fun e => ?_
        unfold lend at k
        rw [e] at k
        replace k : (if 0 < f a then H a else none) ≠ none := k
        rw [if_neg (fun y => z ⟨e, y⟩)] at k
        exact k rfl
      · exact .inr k
end
def lendR (r : CR) (τ : Env) : R D := match r with
  | .ok d => if clean d = true then .ok d τ else .bad
  | .ex c => .ex c τ
  | .bad => .bad
def eCallZ (g : List D → CR) (m : Env → Option (List D)) : ME := fun τ => match m τ with
  | some ds => lendR (g (freezeL ds)) τ
  | none => .bad
section
variable {X : Cx} {B : Bx} {W : WX}
def eMethZ (As : List (Str × (List D → CR))) (m : Str) (mo : ME) (ma : Env → Option (List D)) : ME := fun τ => (mo τ).bind fun d τ1 => match d with
  | .obj false c ns xs => match As.lookup c with
    | some g => if ns.contains m = true then .bad else (match ma τ1 with
      | some ds => lendR (g (.obj false c ns xs :: freezeL ds)) τ1
      | none => .bad)
    | none => .bad
  | _ => .bad
/-! ### an item set anew -/
theorem RepOs.set {K : PySem.W.Frag} {ca : Str → Addr} {F H : Hp} {d : D} {v : V} {g2 : Ct} (hv : RepO K ca F H d v g2) : ∀ {ds : List D} {vs : List V} {f : Ct} (j : Nat), RepOs K ca F H ds vs f → ∃ g, RepOs K ca F H (ds.set j d) (vs.set j v) g ∧ ∀ b, g b ≤ f b + g2 b
  | [], vs, f, j, h => by
    cases (show vs = [] from h.1)
    exact ⟨f, h, fun b => by omega⟩
  | x :: ds, _, f, 0, ⟨w, r, f1, f2, e, h1, h2, h3⟩ => by
    subst e
    exact ⟨fun b => g2 b + f2 b, ⟨v, r, g2, f2, rfl, hv, h2, fun _ => rfl⟩, fun b => by show g2 b + f2 b ≤ f b + g2 b; rw [h3]; omega⟩
  | x :: ds, _, f, j + 1, ⟨w, r, f1, f2, e, h1, h2, h3⟩ => by
    subst e
    obtain ⟨g, k1, k2⟩ := RepOs.set hv j h2
    exact ⟨fun b => f1 b + g b, ⟨w, r.set j v, f1, g, rfl, h1, k1, fun _ => rfl⟩, fun b => by show f1 b + g b ≤ f b + g2 b; have := k2 b; rw [h3]; omega⟩
def setD (es : List D) (k : Int) (d : D) : Option (List D) := (ixN es.length k).map fun j => es.set j d
def sSetIx (i : Nat) (mi : MZ) (m : ME) : MS := fun τ => (m τ).s fun d τ1 => match τ1.getD i none with
  | some (.lst true es) => (match mi τ1 with
    | some (.int k) => (match setD es k d with
      | some es' => .nx (τ1.set i (some (.lst true es')))
      | none => .bad)
    | _ => .bad)
  | _ => .bad
/-! ### in, over lists of data -/
def gInD (neg : Bool) (a b : D) : Option D := match b with
  | .lst m xs => if okP a = true ∧ okP (.lst m xs) = true then some (.bl (if neg = true then !(toPs xs).any fun z => PyData.eqv z (toP a) else (toPs xs).any fun z => PyData.eqv z (toP a))) else none
  | _ => none
/-- a comprehension bound to a name that inner blocks read -/
theorem sw_false {elt : Expr} {gs : List Comprehension} {scope : Scope} {pos py : Pos} {y : Str} {l : Nat} {env : PySem.Env} (hy : env.scope.names.lookup y = some .cell) : swapsWith (.ListComp elt gs scope pos) (some (.Name y py)) l env = pure false := by
  have h : (env.kindOf y == some .local) = false := by
    show (env.scope.names.lookup y == some .local) = false
    rw [hy]; rfl
  show pure (env.blockKind == .function && env.kindOf y == some .local && py.line == pos.line && !(scope.names.any fun (n, k) => n == y && (k == .local || k == .cell))) = _
  rw [h, Bool.and_false]
  rfl
theorem units65 {k : Nat} {A : Around} (r : Room k A) : A.units + 65 < cLine := by have := r.un; omega
/-! ### a comprehension over a list that its name keeps -/
theorem RepOs.getI {K : PySem.W.Frag} {ca : Str → Addr} {F H : Hp} : ∀ {es : List D} {us : List V} {g : Ct} {i : Nat} {d : D}, RepOs K ca F H es us g → es[i]? = some d → ∃ v f, us[i]? = some v ∧ RepO K ca F H d v f
  | [], _, _, _, _, _, e => by simp at e
  | x :: es, _, _, 0, d, ⟨v, r, f1, f2, e, h1, _⟩, hd => by
    subst e
    simp at hd; subst hd
    exact ⟨v, f1, rfl, h1⟩
  | x :: es, _, _, i + 1, d, ⟨v, r, f1, f2, e, _, h2, _⟩, hd => by
    subst e
    obtain ⟨w, f, k1, k2⟩ := RepOs.getI (i := i) h2 (by simpa using hd)
    exact ⟨w, f, by simpa using k1, k2⟩
theorem itOk_own {K : PySem.W.Frag} {a : Addr} {es : List D} {vs : List V} {ds : List D} (hz : es.all isFz = true) : ItOk K B (Itl K a) es (.ref a :: vs) (.lst true es :: ds) := by
  have look : ∀ {F H σ τ}, StT K B F H σ τ (.ref a :: vs) (.lst true es :: ds) → ∃ us g, SqL K H a us ∧ RepOs K B.ca F H es us g := fun {F H σ τ} s => by
    obtain ⟨f, a', us, g, e, h1, h2, _⟩ := s.top
    cases e
    exact ⟨us, g, sqOf h1, h2⟩
  refine ⟨fun i F H σ τ s hi => ?_, fun F H σ τ s => ?_, fun i d F H σ τ x H' us' es' hl hd s y => ?_⟩
  · obtain ⟨us, g, h1, h2⟩ := look s
    exact ⟨us, us[i]'(by rw [h2.length]; exact hi), h1, by simp [h2.length, hi]⟩
  · obtain ⟨us, g, h1, h2⟩ := look s
    exact ⟨us, h1, by rw [h2.length]; exact Nat.le_refl _⟩
  · obtain ⟨rfl, y⟩ := y
    obtain ⟨us, g, h1, h2⟩ := look (s.pops hl)
    obtain ⟨v, f, e, r⟩ := h2.getI hd
    rw [y us h1] at e; cases e
    exact ⟨F, s.push ((repO_fz (List.all_eq_true.mp hz _ (List.mem_of_getElem? hd))).mp r).1⟩
def eLcB (own : List Nat) (i : Nat) (g : D → Env → Option Env) (t : MT) (m : ME) : ME := fun τ => match τ.getD i none with
  | some (.lst true es) => if es.all isFz = true then (match lcL own g t m es [] (wipeE (τ.set i none) own) with
    | .ok acc τ2 => .ok (.lst true acc) (τ2.set i (some (.lst true es)))
    | _ => .bad) else .bad
  | _ => .bad
theorem StT.len {K : PySem.W.Frag} {F H : Hp} {σ : L2.St} {τ : Env} {vs : List V} {ds : List D} (s : StT K B F H σ τ vs ds) : σ.length = τ.length := by
  obtain ⟨_, _, a, _⟩ := s
  exact a.length
theorem impLcB {own : List Nat} {i : Nat} {g : D → Env → Option Env} {sl : List Nat} {t : MT} {m : ME} (hsl : ∀ j ∈ sl, j ∈ own) (hio : ioFreeL B own) (σ : L2.St) (H : Hp) (Q : VK) (h : rdE X.K B W (eLcB own i g t m) σ H Q) : tLc (iList X.K (tVar i)) (rdG X.K B sl g) (rdT X.K B W0 t) (rdE X.K B W0 m) own σ H Q := by
  obtain ⟨F, τ, vs, ds, s, p⟩ := h
  unfold eLcB at p
  cases e0 : τ.getD i none with
  | none => rw [e0] at p; exact p.elim
  | some d0 =>
    rw [e0] at p
    cases d0 with
    | lst mm es =>
      cases mm with
      | false => exact p.elim
      | true =>
        replace p : post _ _ (if es.all isFz = true then (match lcL own g t m es [] (Bn.wipeE (τ.set i none) own) with | .ok acc τ2 => R.ok (D.lst true acc) (τ2.set i (some (.lst true es))) | _ => R.bad) else R.bad) := p
        by_cases z : es.all isFz = true
        · rw [if_pos z] at p
          obtain ⟨v, h1, s1⟩ := s.take (getD_some e0)
          obtain ⟨f, a, us, g', rfl, h2, _⟩ := s1.top
          refine ⟨.ref a, h1, a, rfl, ⟨us, sqOf h2⟩, ?_⟩
          cases e : lcL own g t m es [] (Bn.wipeE (τ.set i none) own) with
          | ok acc τ2 =>
            rw [e] at p
            refine lc_core' (itOk_own z) hsl hio s1 e fun v F2 H2 s2 => p v F2 H2 ?_
            have s3 := StT.swap (us := [v]) (es := [.lst true acc]) s2 rfl
            exact s3.putBack (by rw [← s3.len]; exact (List.getElem?_eq_some_iff.mp h1).1) h1
          | _ => rw [e] at p; exact p.elim
        · rw [if_neg z] at p; exact p.elim
    | _ => exact p.elim
theorem e_lcB {elt tg iter : Expr} {ifs : List Expr} {scope : Scope} {own : List (Str × Nat)} {pos : Pos} {i : Nat} {g : D → Env → Option Env} {sl : List Nat} {t : MT} {m : ME} (c : XOk X W) (hN : X.N.Nodup) (hi : PE X iter (tVar i)) (ok : BlkOk X.N X.env.scope scope own)
    (hg : ∀ (s : Shared) (H : Hp) (C : Addr) (cl : List (Str × Addr)) (fp : List Addr), PG (X.blk s H scope (compEnvC scope cl C X.env) fp) tg (rdG X.K B sl g)) (ht : ∀ (s : Shared) (H : Hp) (C : Addr) (cl : List (Str × Addr)) (fp : List Addr), PTs (X.blk s H scope (compEnvC scope cl C X.env) fp) ifs (rdT X.K B W0 t))
    (he : ∀ (s : Shared) (H : Hp) (C : Addr) (cl : List (Str × Addr)) (fp : List Addr), XOk (X.blk s H scope (compEnvC scope cl C X.env) fp) W0 → PE (X.blk s H scope (compEnvC scope cl C X.env) fp) elt (rdE X.K B W0 m))
    (hsl : ∀ j ∈ sl, j ∈ own.map (·.2) := by decide) (hio : ioFreeL B (own.map (·.2)) := by first | (intro p hp; cases hp; done) | (intro p hp; simp only [List.mem_cons, List.not_mem_nil, or_false] at hp; rcases hp with rfl | rfl <;> simp) | (intro p hp; simp only [List.mem_cons, List.not_mem_nil, or_false] at hp; rcases hp with rfl | rfl | rfl <;> simp) | (intro p hp; simp only [List.mem_cons, List.not_mem_nil, or_false] at hp; subst hp; simp)) (hs : ∀ x, foldedSetIterable iter X.env x = pure x := by intro _; rfl) :
    PE X (.ListComp elt [⟨tg, iter, ifs, 0⟩] scope pos) (rdE X.K B W (eLcB (own.map (·.2)) i g t m)) :=
  PE.imp (pe_lc c.calm hN (pi_list hi) ok hg ht (fun s H C cl fp => he s H C cl fp ⟨takes0, PassesOwn.never, c.calm⟩) hs) (impLcB hsl hio)
end
end Bn

/-! Parameters that a def changes. -/
namespace Bn
open PySem PySem.Spec PyProof.Rows L2
inductive CR2 where
  | ok (d : D) (outs : List D)
  | bad
def ioL : Nat → List V → List (Nat × V)
  | _, [] => []
  | j, u :: us => (j, u) :: ioL (j + 1) us
/-- the first k parameters are handed to be changed -/
def spIO (K : PySem.W.Frag) (ca : Str → Addr) (k : Nat) (g : List D → CR2) : Sp := fun vs H Q _ => ∃ F f ios rest us ws, vs = us ++ ws ∧ ios.length = k ∧ RepOs K ca F H ios us f ∧ RepL K ca F rest ws ∧ Same F H ∧ (∀ a, f a ≤ 1) ∧ (∀ a, 0 < f a → F a = none) ∧
  match g (ios ++ rest) with
  | .ok d outs => ∀ v F' H' g', Same F F' → Same F' H' → (∀ a o, f a = 0 → H a = some o → H' a = some o) → RepOs K ca F' H' (d :: outs) (v :: us) g' → (∀ a, g' a ≤ 1) → (∀ a, 0 < g' a → F' a = none ∧ (H a = none ∨ 0 < f a)) → (∀ a, F' a ≠ none → F a ≠ none ∨ H a = none ∨ 0 < f a) → Q v H'
  | .bad => False
structure FoI (P : Program) (w : World) (K : PySem.W.Frag) (mg : Str → Option Value) (base : Heap) (ca : Str → Addr) (k : Nat) (x : Str) (m : Nat) (g : List D → CR2) : Prop where
  ex : ∃ f fd ps, mg x = some (.ref f) ∧ PySem.W.keepIn K (.ref f) = true ∧ Binds K fd ps [] ∧ FnOk P w K mg base (L2.CX P w) k f fd ps (spIO K ca m g)
def outsE : Nat → Env → Option (List D)
  | 0, _ => some []
  | _ + 1, [] => none
  | k + 1, o :: τ => match o with
    | none => none
    | some d => (outsE k τ).map (d :: ·)
def outR (k : Nat) (d : D) (τ : Env) : CR2 := match outsE k τ with
  | some os => .ok d os
  | none => .bad
def callFI (n N k : Nat) (b : MS) : List D → CR2 := fun ds => if ds.length = n then (match b (ds.map some ++ List.replicate (N - n) none) with
  | .nx τ => outR k .non τ
  | .rt d τ => outR k d τ
  | _ => .bad) else .bad
section
variable {K : PySem.W.Frag} {ca : Str → Addr} {F H : Hp}
end
section
variable {P : Program} {w : World} {K : PySem.W.Frag} {mg : Str → Option Value} {base : Heap} {ca : Str → Addr}
end
/-! ### the call -/
def takeD : List Nat → Env → Option (List D × Env)
  | [], τ => some ([], τ)
  | i :: is, τ => match τ.getD i none with
    | none => none
    | some d => (takeD is (τ.set i none)).map fun p => (d :: p.1, p.2)
def putD : List Nat → List D → Env → Env
  | i :: is, d :: ds, τ => putD is ds (τ.set i (some d))
  | _, _, τ => τ
def callI (g : List D → CR2) (is : List Nat) (ds : List D) (τ1 : Env) : R D := match takeD is τ1 with
  | none => .bad
  | some (ios, τ2) => match g (ios ++ freezeL ds) with
    | .ok d outs => if outs.length = is.length then .ok d (putD is outs τ2) else .bad
    | .bad => .bad
def eCallI (g : List D → CR2) (is : List Nat) (m : MA) : ME := fun τ => if is.all (fun i => (τ.getD i none).isSome) = true then (m τ).bind fun ds τ1 => callI g is ds τ1 else .bad
def tIO : List Nat → TA → TA
  | [], t => t
  | i :: r, t => fun σ H Q => ∃ v, σ[i]? = some (some v) ∧ tIO r t σ H fun us H' => Q (v :: us) H'
section
variable {X : Cx} {B : Bx} {W : WX}
theorem StT.takes {F H : Hp} {σ : L2.St} : ∀ {is : List Nat} {τ τ' : Env} {vs vals : List V} {ds ios : List D}, StT X.K B F H σ τ vs ds → takeD is τ = some (ios, τ') → vals.length = is.length → (∀ (j i : Nat), is[j]? = some i → ∃ v, vals[j]? = some v ∧ σ[i]? = some (some v)) → ios.length = is.length ∧ StT X.K B F H σ τ' (vals ++ vs) (ios ++ ds)
  | [], τ, τ', vs, vals, ds, ios, s, e, hl, _ => by
    cases (show some ([], τ) = some (ios, τ') from e)
    cases vals with
    | nil => exact ⟨rfl, s⟩
    | cons _ _ => cases hl
  | i :: is, τ, τ', vs, vals, ds, ios, s, e, hl, hv => by
    cases e1 : τ.getD i none with
    | none =>
      unfold takeD at e
      rw [e1] at e; cases e
    | some d =>
      unfold takeD at e
      rw [e1] at e
      replace e : (takeD is (τ.set i none)).map (fun p => (d :: p.1, p.2)) = some (ios, τ') := e
      cases e2 : takeD is (τ.set i none) with
      | none => rw [e2] at e; cases e
      | some p =>
        rw [e2] at e
        cases e
        cases vals with
        | nil => cases hl
        | cons v vals =>
          obtain ⟨v', k1, k2⟩ := hv 0 i rfl
          obtain ⟨v2, k3, s1⟩ := s.take (getD_some e1)
          have : v' = v := by simpa using k1.symm
          subst this
          rw [k2] at k3
          cases k3
          obtain ⟨hl2, s2⟩ := StT.takes (vals := vals) (ios := p.1) (τ' := p.2) s1 e2 (by simpa using hl) fun j i' hj => by
            obtain ⟨w, q1, q2⟩ := hv (j + 1) i' (by simpa using hj)
            exact ⟨w, by simpa using q1, q2⟩
          have hl3 : vals.length = p.1.length := by
            have : vals.length = is.length := by simpa using hl
            omega
          exact ⟨by simp [hl2], s2.swap hl3⟩
/-! ### a, b = x, y -/
def sPar (i j : Nat) (m : MA) : MS := fun τ => (m τ).s fun ds τ1 => match ds with
  | [x, y] => .nx ((τ1.set i (some x)).set j (some y))
  | _ => .bad
/-! ### sorted, of ints -/
def insI (x : Int) : List Int → List Int
  | [] => [x]
  | y :: r => if x ≤ y then x :: y :: r else y :: insI x r
def sortI : List Int → List Int
  | [] => []
  | x :: r => insI x (sortI r)
theorem insI_perm (x : Int) : ∀ r : List Int, (insI x r).Perm (x :: r)
  | [] => List.Perm.refl _
  | y :: r => by
    unfold insI
    split
    · exact List.Perm.refl _
    · exact ((insI_perm x r).cons y).trans (List.Perm.swap x y r)
theorem sortI_perm : ∀ r : List Int, (sortI r).Perm r
  | [] => List.Perm.refl _
  | x :: r => (insI_perm x (sortI r)).trans ((sortI_perm r).cons x)
theorem insI_sorted (x : Int) : ∀ r : List Int, r.Pairwise (· ≤ ·) → (insI x r).Pairwise (· ≤ ·)
  | [], _ => by simp [insI]
  | y :: r, h => by
    obtain ⟨h1, h2⟩ := List.pairwise_cons.mp h
    unfold insI
    split
    · rename_i q
      refine List.pairwise_cons.mpr ⟨fun z hz => ?_, h⟩
      rcases List.mem_cons.mp hz with rfl | hz
      · exact q
      · exact Int.le_trans q (h1 z hz)
    · rename_i q
      refine List.pairwise_cons.mpr ⟨fun z hz => ?_, insI_sorted x r h2⟩
      rcases List.mem_cons.mp ((insI_perm x r).mem_iff.mp hz) with rfl | hz
      · omega
      · exact h1 z hz
theorem sortI_sorted : ∀ r : List Int, (sortI r).Pairwise (· ≤ ·)
  | [] => List.Pairwise.nil
  | x :: r => insI_sorted x _ (sortI_sorted r)
theorem sorted_eq : ∀ {a b : List Int}, a.Perm b → a.Pairwise (· ≤ ·) → b.Pairwise (· ≤ ·) → a = b
  | [], b, h, _, _ => h.nil_eq
  | x :: a, [], h, _, _ => absurd h.symm (by simp)
  | x :: a, y :: b, h, ha, hb => by
    obtain ⟨a1, a2⟩ := List.pairwise_cons.mp ha
    obtain ⟨b1, b2⟩ := List.pairwise_cons.mp hb
    have e : x = y := by
      have h1 : x ∈ y :: b := h.mem_iff.mp List.mem_cons_self
      have h2 : y ∈ x :: a := h.mem_iff.mpr List.mem_cons_self
      rcases List.mem_cons.mp h1 with e | e
      · exact e
      · rcases List.mem_cons.mp h2 with e2 | e2
        · exact e2.symm
        · have := b1 x e; have := a1 y e2; omega
    subst e
    rw [sorted_eq (List.Perm.cons_inv h) a2 b2]
def eSorted (m : MA) : ME := fun τ => (m τ).bind fun ds τ1 => match freezeL ds with
  | [.lst _ es] => (match intsOf es with
    | some ns => .ok (.lst true ((sortI ns).map D.int)) τ1
    | none => .bad)
  | _ => .bad
theorem repL_intsOf {K : PySem.W.Frag} {ca : Str → Addr} {F : Hp} : ∀ {es : List D} {us : List V} {ns : List Int}, RepL K ca F es us → intsOf es = some ns → us = ns.map V.int
  | [], us, ns, h, e => by
    cases (show some [] = some ns from e)
    exact h
  | d :: es, us, ns, ⟨v, r, e1, h1, h2⟩, e => by
    subst e1
    cases d with
    | int i =>
      cases e2 : intsOf es with
      | none =>
        unfold intsOf at e
        rw [e2] at e; cases e
      | some ms =>
        unfold intsOf at e
        rw [e2] at e
        cases (show some (i :: ms) = some ns from e)
        rw [repL_intsOf h2 e2, (show v = .int i from h1)]
        rfl
    | _ => cases e
theorem repL_int {K : PySem.W.Frag} {ca : Str → Addr} {F : Hp} : ∀ ns : List Int, RepL K ca F (ns.map D.int) (ns.map V.int)
  | [] => rfl
  | i :: r => ⟨.int i, r.map V.int, rfl, rfl, repL_int r⟩
theorem e_sorted {x : Str} {p pos : Pos} {e : Expr} {m : MA} (hg : Gl X x) (hm : X.mg x = none) (hv : bootBuiltins x = some (.builtin "sorted")) (ha : PA X [e] (rdA X.K B W m)) (hn : x ≠ "__name__" := by decide) (hdb : (x == ("__debug__" : Str)) = false := by decide)
    (he : starEach [e] X.env = (false, eval e X.env) :: starEach [] X.env := by rfl) (hpl : (backTo pos (starEach [] X.env)).any (·.1) = false := by rfl) : PE X (.Call (.Name x p) [e] [] pos) (rdE X.K B W (eSorted m)) := PE.imp (pe_callB cr_sortedI hg hm hv ha hn hdb he hpl) fun σ H Q ⟨F, τ, vs, ds, s, p⟩ => by
  refine ⟨F, τ, vs, ds, s, post_imp (post_bind p) (fun es τ1 q us F1 H1 hl s1 => ?_) fun _ _ q => q⟩
  obtain ⟨F2, sm, rl, s2⟩ := s1.freeze hl
  match h : freezeL es, q, rl with
  | [.lst b xs], q, rl =>
    obtain ⟨v, r, rfl, r1, r2⟩ := rl
    cases (show r = [] from r2)
    cases b with
    | true => exact r1.elim
    | false =>
      obtain ⟨a, ws, rfl, h1, h2⟩ := r1
      replace q : post _ _ (match intsOf xs with | some ns => R.ok (D.lst true ((sortI ns).map D.int)) τ1 | none => R.bad) := q
      cases ei : intsOf xs with
      | none => rw [ei] at q; exact q.elim
      | some ns =>
        rw [ei] at q
        have ew := repL_intsOf h2 ei
        subst ew
        refine ⟨a, ns, rfl, sqOf (s2.same _ _ h1), fun ns' l p1 p2 hp => ?_⟩
        have en : ns' = sortI ns := sorted_eq (p1.trans (sortI_perm ns).symm) p2 (sortI_sorted ns)
        subst en
        have hk : RepL X.K B.ca F2 ((sortI ns).map D.int) ((sortI ns).map V.int) := repL_int _
        exact q _ _ _ ((s2.pushL hk).newLst hk.length hp)
  | [], q, _ => exact q.elim
  | [.non], q, _ => exact q.elim
  | [.bl _], q, _ => exact q.elim
  | [.int _], q, _ => exact q.elim
  | [.str _], q, _ => exact q.elim
  | [.ty _], q, _ => exact q.elim
  | [.tup _], q, _ => exact q.elim
  | [.cst _], q, _ => exact q.elim
  | [.val _], q, _ => exact q.elim
  | [.tpo _], q, _ => exact q.elim
  | [.dct _ _ _], q, _ => exact q.elim
  | [.obj _ _ _ _], q, _ => exact q.elim
  | a :: _ :: _, q, _ => cases a <;> exact q.elim
/-! ### xs.index(x) -/
def findP (d : PyData) : List PyData → Nat → Option Nat
  | [], _ => none
  | z :: r, k => if PyData.eqv z d = true then some k else findP d r (k + 1)
def gIndex (b a : D) : Option D := match b with
  | .lst m xs => if okP a = true ∧ okP (.lst m xs) = true then (findP (toP a) (toPs xs) 0).map fun j => .int (j : Nat) else none
  | _ => none
/-! ### products by a small number -/
instance decCMul {i j : Int} : Decidable (CMul i j) := by unfold CMul; infer_instance
def gMulS : D → D → Option D := gIC CMul fun i j => .int (i * j)
/-! ### is, of truths -/
def gIsB : D → D → Option D
  | .bl a, .bl b => some (.bl (decide (a = b)))
  | _, _ => none
end
end Bn

/-! list(reversed(xs)); clear, pop, insert. -/
namespace Bn
open PySem PySem.Spec PyProof.Rows L2
section
variable {prog : Program} {w : World} {A : Around} {E : Value → Shared → Prop} {s : Shared}
theorem extend_rev {R : Result → Shared → Prop} (hh : A.handled = none) {it l S : Addr} {items : Array Value} (res : Value) (c₀ : Nat) (hS : s.heap.get? S = some { cls := .type "list", data := .seq #[] c₀ })
    (hit : s.heap.IsRevIter it l ((items.size : Int) - 1)) (hl : s.heap.IsList l items) (hne : l ≠ it) (hSi : S ≠ it) (hSl : S ≠ l) (hn : items.size ≤ sizeLine)
    (hR : ∀ h' tk acc' c', (∀ b o, b ≠ S → b ≠ it → s.heap.get? b = some o → h'.get? b = some o) → h'.get? S = some { cls := .type "list", dict := none, data := .seq acc' c', slots := #[] } →
      ItemsOf (fun i v => items[items.size - 1 - i]? = some v) acc' items.size → R (.ok (.ret res)) { s with heap := h', toks := tk }) :
    wpAny (model prog w) A.in1 (Builtin.List.listExtendWith (.ref S) (.ref it) res)
      (fun fin s' => match fin with | .done f => R (.ok f) s' | .again c' => c'.quiet = true ∧ codeAny (model prog w) A c' R s') (fun e s' => R (.error e) s') s := by
  have W := (Walks.listRev (prog := prog) (w := w) (A := A.in1) hh it l hne items).toS
  have hSf : S ∉ [it, l] := by simp only [List.mem_cons, List.not_mem_nil, or_false, not_or]; exact ⟨hSi, hSl⟩
  have hT : s.TypeIs (.ref it) "list_reverseiterator" := Heap.IsRevIter.typeIs hit
  have h1 : Builtin.List.listSameRef (.ref S) (.ref it) = false := by simp [Builtin.List.listSameRef, hSi]
  unfold Builtin.List.listExtendWith
  refine wpAny_bind (wpAny_typeOf hT ?_)
  rw [if_neg (by rw [h1]; decide)]
  refine wpAny_bind (wpAny_pyIter_revIter hit ?_)
  refine wpAny_bind (wpAny_holding ?_)
  unfold Builtin.List.listLengthHint
  refine wpAny_bind (wpAny_specialOf hT RT.nolen_lri ?_)
  show wpAny _ A.in1 (specialOf (Value.ref it) (Str.ofString "__length_hint__") >>= _) _ _ _
  refine wpAny_bind (wpAny_specialOf hT RT.hint_lri ?_)
  generalize hid : ("list_reverseiterator.__length_hint__" : String) = id0
  wp_delta
  rw [show splitId id0 = some ("list_reverseiterator", "__length_hint__") from by subst hid; decide +kernel]
  subst hid
  refine wpAny_bind (wpAny_isInstance (b := true) hT (by rw [isSubtype_type]; kernel_rfl) ?_)
  refine wpAny_pure ?_
  rw [if_neg (by decide)]
  have e0 : ((items.size : Nat) : Int) - 1 - ((0 : Nat) : Int) = (items.size : Int) - 1 := by omega
  refine wpAny_pure ⟨plainId_quiet F.plain_extend_loop _, codeAny_extend_loopS W hn _ hSf _ items.size 0 _ _ _ rfl (Nat.zero_le _) ⟨Nat.zero_le _, by rw [e0]; exact hit, hl⟩ hS (ItemsOf.nil _) fun s' acc' c' hm hS' hacc => ?_⟩
  rw [Moved.eq_with hm]
  obtain ⟨ol, hol, _⟩ := id hl
  refine hR s'.heap s'.toks acc' c' (fun b o hb hbi e => hm.heap b o (fun hmem => ?_) e) hS' hacc
  rcases List.mem_cons.mp hmem with e' | hmem
  · exact hb e'
  · exact hbi (List.mem_singleton.mp hmem)
theorem list_init_rev {R : Result → Shared → Prop} (hh : A.handled = none) {it l S : Addr} {items : Array Value} (hS : s.heap.get? S = some { cls := .type "list", data := .seq #[] })
    (hit : s.heap.IsRevIter it l ((items.size : Int) - 1)) (hl : s.heap.IsList l items) (hne : l ≠ it) (hSi : S ≠ it) (hSl : S ≠ l) (hn : items.size ≤ sizeLine)
    (hR : ∀ h' tk acc' c', (∀ b o, b ≠ S → b ≠ it → s.heap.get? b = some o → h'.get? b = some o) → h'.get? S = some { cls := .type "list", dict := none, data := .seq acc' c', slots := #[] } →
      ItemsOf (fun i v => items[items.size - 1 - i]? = some v) acc' items.size → R (.ok (.ret .none)) { s with heap := h', toks := tk }) :
    wpAny (model prog w) A.in1 (Builtin.«list.__init__» ⟨[.ref S, .ref it], []⟩)
      (fun fin s' => match fin with | .done f => R (.ok f) s' | .again c' => c'.quiet = true ∧ codeAny (model prog w) A c' R s') (fun e s' => R (.error e) s') s := by
  show wpAny _ _ (do let old ← Builtin.List.listItems (.ref S); Builtin.List.listUpdate (.ref S) (fun _ => #[]); letGo old.toList.reverse; Builtin.List.listExtendWith (.ref S) (.ref it) .none) _ _ s
  refine wpAny_bind ?_
  unfold Builtin.List.listItems
  refine wpAny_bind (wpAny_seqItems hS rfl (wpAny_pure ?_))
  show wpAny _ _ (updateSeq S (fun _ => #[]) >>= fun _ => letGo (#[] : Array Value).toList.reverse >>= fun _ => Builtin.List.listExtendWith (.ref S) (.ref it) .none) _ _ s
  refine wpAny_bind (wpAny_updateSeq hS rfl ?_)
  have hS₂ := Heap.get?_update_self (Obj.mapSeq (fun _ => (#[] : Array Value))) hS rfl
  have oth : ∀ b o, b ≠ S → s.heap.get? b = some o → (s.heap.update S (Obj.mapSeq (fun _ => (#[] : Array Value)))).get? b = some o :=
    fun b o hb e => (Heap.get?_update_other _ _ (Ne.symm hb)).trans e
  refine wpAny_bind (wpAny_letGo ?_)
  obtain ⟨oi, hoi, ci, di⟩ := id hit
  obtain ⟨ol, hol, cl, nl, dl⟩ := id hl
  refine extend_rev (s := { s with heap := s.heap.update S (Obj.mapSeq (fun _ => (#[] : Array Value))) }) hh .none _ hS₂ ⟨oi, oth _ _ (Ne.symm hSi) hoi, ci, di⟩ ⟨ol, oth _ _ (Ne.symm hSl) hol, cl, nl, dl⟩ hne hSi hSl hn fun h' tk acc' c' hk hS' hacc => ?_
  exact hR h' tk acc' c' (fun b o hb hbi e => hk b o hb hbi (oth b o hb e)) hS' hacc
theorem call_list_rev {it l : Addr} {items : Array Value} {Q : Value → Shared → Prop} (hh : A.handled = none) (hit : s.heap.IsRevIter it l ((items.size : Int) - 1)) (hl : s.heap.IsList l items) (hne : l ≠ it) (hn : items.size ≤ sizeLine)
    (hQ : ∀ h' tk acc' c', (∀ b o, b ≠ it → s.heap.get? b = some o → h'.get? b = some o) →
      h'.get? s.heap.objs.size = some { cls := .type "list", dict := none, data := .seq acc' c', slots := #[] } → ItemsOf (fun i v => items[items.size - 1 - i]? = some v) acc' items.size → Q (.ref s.heap.objs.size) { s with heap := h', toks := tk }) :
    wpAny (model prog w) A (call (.type "list") [.ref it]) Q E s := by
  refine callType_codes (Q₁ := fun obj s₁ => obj = .ref s.heap.objs.size ∧ s₁ = { s with heap := s.heap.push { cls := .type "list", data := .seq #[] } }) PySem.F.called_list (PySem.F.typeCall_list_1 _) PySem.F.entry_list_init
    (code_list_new _ ⟨rfl, rfl⟩) fun obj s₁ h₁ => ?_
  obtain ⟨rfl, rfl⟩ := h₁
  have hS : (s.heap.push { cls := .type "list", data := .seq #[] }).get? s.heap.objs.size = some { cls := .type "list", data := .seq #[] } := Heap.get?_push_size _ rfl
  obtain ⟨oi, hoi, ci, di⟩ := id hit
  obtain ⟨ol, hol, cl, nl, dl⟩ := id hl
  refine ⟨⟨_, hS, rfl⟩, PySem.F.args_list_init_2 _ _, list_init_rev (s := { s with heap := s.heap.push { cls := .type "list", data := .seq #[] } }) (A := A.in1) hh hS ⟨oi, Heap.get?_push_of_some _ hoi, ci, di⟩ (hl.push _) hne (Nat.ne_of_gt (Heap.lt_size hoi)) (Nat.ne_of_gt (Heap.lt_size hol)) hn (fun h' tk acc' c' hk hS' hacc => ?_)⟩
  exact ⟨rfl, hQ h' tk acc' c' (fun b o hb e => hk b o (Nat.ne_of_lt (Heap.lt_size e)) hb (Heap.get?_push_of_some _ e)) hS' hacc⟩
end
/-- list(reversed(x)), x a list: a new list -/
def tLstRev (K : PySem.W.Frag) (te : TE) : TE := fun σ H Q => te σ H fun v H1 => ∃ (a : Addr) (xs : List V), v = .ref a ∧ SqL K H1 a xs ∧ ∀ q, H1 q = none → Q (.ref q) (upd H1 q (.lst xs.reverse))
section
variable {X : Cx}
theorem pe_lstRev {e : Expr} {te : TE} {p p2 pos pos2 : Pos} (hc : X.calm = true) (hg : Gl X "list") (hm : X.mg "list" = none) (hg2 : Gl X "reversed") (hm2 : X.mg "reversed" = none) (he : PE X e te)
    (hs : starEach [e] X.env = (false, eval e X.env) :: starEach [] X.env := by rfl)
    (hs2 : starEach [.Call (.Name "reversed" p2) [e] [] pos2] X.env = (false, eval (.Call (.Name "reversed" p2) [e] [] pos2) X.env) :: starEach [] X.env := by rfl) :
    PE X (.Call (.Name "list" p) [.Call (.Name "reversed" p2) [e] [] pos2] [] pos) (tLstRev X.K te) := by
  refine ⟨fun pins s σ H Q I h => ?_⟩
  refine Call_ (ld_blt I hg hm boot_list (PyProof.Rows.callWith_type1 (args_cons (Call_ (ld_blt I hg2 hm2 PyProof.Rows.boot_reversed (PyProof.Rows.callWith_type1 (args_cons (thn (he.run pins s σ H _ I h) fun u s1 ⟨v, H1, I1, r1, q1⟩ => args_nil ?_) hs) hs rfl))) hs2) hs2 rfl))
  obtain ⟨a, xs, ev, hq, q⟩ := q1
  subst ev
  obtain rfl : u = Value.ref a := r1
  obtain ⟨its, rv, p', hz⟩ := I1.list hq
  refine call_reversed_list p'.isList (args_nil ?_)
  have k0 : ∀ b o, s1.heap.get? b = some o → (s1.heap.push (revObj a ((its.toArray.size : Int) - 1))).get? b = some o := fun b o e => Heap.get?_push_of_some _ e
  have I2 : Inv X pins σ H1 { s1 with heap := s1.heap.push (revObj a ((its.toArray.size : Int) - 1)) } := I1.kept (t' := s1.toks) k0
  obtain ⟨f0, f1, f2, f3, f4, f5⟩ := I1.fpOk (H' := H1) (b := s1.heap.objs.size) (Nat.le_refl _) (I1.hok.fresh (Nat.le_refl _))
  have hl := p'.isList
  obtain ⟨ol, hol, _⟩ := id hl
  have hne : a ≠ s1.heap.objs.size := Nat.ne_of_lt (Heap.lt_size hol)
  have hn : its.toArray.size ≤ sizeLine := by rw [List.size_toArray, ← rv.length]; exact hz
  refine call_list_rev (s := { s1 with heap := s1.heap.push (revObj a ((its.toArray.size : Int) - 1)) }) (I1.ok.hd hc) ⟨_, Heap.get?_push_size _ rfl, rfl, rfl⟩ (hl.push _) hne hn fun h' tk acc c' hk hS' hi => ?_
  have hle : s1.heap.objs.size ≤ (s1.heap.push (revObj a ((its.toArray.size : Int) - 1))).objs.size := by
    show s1.heap.objs.size ≤ (s1.heap.objs.push _).size
    rw [Array.size_push]; omega
  refine ⟨.ref (s1.heap.push (revObj a ((its.toArray.size : Int) - 1))).objs.size, upd H1 (s1.heap.push (revObj a ((its.toArray.size : Int) - 1))).objs.size (.lst xs.reverse), I1.laid (t' := tk) (fun b o e => hk b o (Nat.ne_of_lt (Heap.lt_size e)) (k0 b o e)) hle (show ObjOk X.prog X.w _ h' _ (.lst xs.reverse) from ⟨by rw [List.length_reverse]; exact hz, acc.toList, c', RT.vals_rev rv hi, ?_⟩), rfl, q _ (I1.hok.fresh hle)⟩
  rw [Array.toArray_toList]
  exact hS'
end

section
variable {X : Cx} {B : Bx} {W : WX}
def eLstRev (m : ME) : ME := fun τ => (m τ).bind fun d τ1 => match freeze d with
  | .lst _ es => .ok (.lst true es.reverse) τ1
  | _ => .bad
theorem RepL.app {K : PySem.W.Frag} {ca : Str → Addr} {F : Hp} : ∀ {ds es : List D} {vs us : List V}, RepL K ca F ds vs → RepL K ca F es us → RepL K ca F (ds ++ es) (vs ++ us)
  | [], es, vs, us, h, k => by cases (show vs = [] from h); exact k
  | d :: ds, es, _, us, ⟨v, r, h1, h2, h3⟩, k => by subst h1; exact ⟨v, r ++ us, rfl, h2, h3.app k⟩
theorem RepL.rev {K : PySem.W.Frag} {ca : Str → Addr} {F : Hp} : ∀ {ds : List D} {vs : List V}, RepL K ca F ds vs → RepL K ca F ds.reverse vs.reverse
  | [], vs, h => by cases (show vs = [] from h); exact rfl
  | d :: ds, _, ⟨v, r, h1, h2, h3⟩ => by
    subst h1
    rw [List.reverse_cons, List.reverse_cons]
    exact h3.rev.app ⟨v, [], rfl, h2, rfl⟩
theorem e_lstRev {e : Expr} {p p2 pos pos2 : Pos} {m : ME} (c : XOk X W) (hg : Gl X "list") (hm : X.mg "list" = none) (hg2 : Gl X "reversed") (hm2 : X.mg "reversed" = none) (he : PE X e (rdE X.K B W m))
    (hs : starEach [e] X.env = (false, eval e X.env) :: starEach [] X.env := by rfl)
    (hs2 : starEach [.Call (.Name "reversed" p2) [e] [] pos2] X.env = (false, eval (.Call (.Name "reversed" p2) [e] [] pos2) X.env) :: starEach [] X.env := by rfl) :
    PE X (.Call (.Name "list" p) [.Call (.Name "reversed" p2) [e] [] pos2] [] pos) (rdE X.K B W (eLstRev m)) := PE.imp (pe_lstRev c.calm hg hm hg2 hm2 he hs hs2) fun σ H Q ⟨F, τ, vs, ds, s, p⟩ => by
  refine ⟨F, τ, vs, ds, s, post_imp (post_bind p) (fun d τ1 q v F1 H1 s1 => ?_) fun _ _ q => q⟩
  obtain ⟨F2, sm, ⟨v', r, e1, rl, _⟩, s2⟩ := StT.freeze (us := [v]) (es := [d]) s1 rfl
  cases e1
  match h : freeze d, q, rl with
  | .lst b xs, q, rl =>
    cases b with
    | true => exact rl.elim
    | false =>
      obtain ⟨a, ws, rfl, h1, h2⟩ := rl
      exact ⟨a, ws, rfl, sqOf (s2.same _ _ h1), fun l hl => q _ _ _ ((s2.pushL h2.rev).newLst h2.rev.length hl)⟩
/-! ### clear -/
def sClear (i : Nat) : MS := fun τ => match τ.getD i none with
  | some (.lst true _) => .nx (τ.set i (some (.lst true [])))
  | _ => .bad
/-! ### for y in xs: y.clear() -/
def isOwnL : D → Bool
  | .lst true _ => true
  | _ => false
theorem RepOs.clr {K : PySem.W.Frag} {ca : Str → Addr} {F H : Hp} : ∀ {es : List D} {us : List V} {g : Ct} {k : Nat} {ws : List D}, RepOs K ca F H es us g → es[k]? = some (.lst true ws) → (∀ a, g a ≤ 1) →
    ∃ b vs, us[k]? = some (.ref b) ∧ H b = some (.lst vs) ∧ 0 < g b ∧ ∃ g', RepOs K ca F (upd H b (.lst [])) (es.set k (.lst true [])) us g' ∧ ∀ x, g' x ≤ g x
  | [], _, _, _, _, _, e, _ => by simp at e
  | d :: es, _, g, 0, ws, ⟨v, r, f1, f2, e, h1, h2, h3⟩, hd, nd => by
    subst e
    have : d = .lst true ws := by simpa using hd
    subst this
    obtain ⟨b, vs, g1, rfl, hx, hg, q⟩ := h1
    have f1b : f1 b = 1 + g1 b := by rw [q, if_pos rfl]
    have one := nd b
    rw [h3, f1b] at one
    refine ⟨b, vs, rfl, hx, by rw [h3, f1b]; omega, fun x => (if x = b then 1 else 0) + f2 x, ?_, fun x => ?_⟩
    · refine ⟨.ref b, r, fun x => if x = b then 1 else 0, f2, rfl, ⟨b, [], fun _ => 0, rfl, upd_same, ⟨rfl, fun _ => rfl⟩, fun x => rfl⟩, RepOs.mono (Same.refl _) _ _ _ (fun x hx => upd_ne fun e => ?_) h2, fun _ => rfl⟩
      subst e; omega
    · show (if x = b then 1 else 0) + f2 x ≤ g x
      rw [h3, q]; omega
  | d :: es, _, g, k + 1, ws, ⟨v, r, f1, f2, e, h1, h2, h3⟩, hd, nd => by
    subst e
    obtain ⟨b, vs, k1, k2, k3, g', k4, k5⟩ := RepOs.clr (k := k) (ws := ws) h2 (by simpa using hd) (fun a => by have := nd a; rw [h3] at this; omega)
    have one := nd b
    rw [h3] at one
    refine ⟨b, vs, by simpa using k1, k2, by rw [h3]; omega, fun x => f1 x + g' x, ⟨v, r, f1, g', rfl, RepO.mono (Same.refl _) _ _ _ (fun x hx => upd_ne fun e => ?_) h1, k4, fun _ => rfl⟩, fun x => by show f1 x + g' x ≤ g x; rw [h3]; have := k5 x; omega⟩
    subst e; omega
theorem StT.clr {K : PySem.W.Frag} {F H : Hp} {σ : L2.St} {τ : Env} {vs : List V} {es ds ws : List D} {a : Addr} {k : Nat} (s : StT K B F H σ τ (.ref a :: vs) (.lst true es :: ds)) (hk : es[k]? = some (.lst true ws)) :
    ∃ us b xs, H a = some (.lst us) ∧ us[k]? = some (.ref b) ∧ H b = some (.lst xs) ∧ StT K B F (upd H b (.lst [])) σ τ (.ref a :: vs) (.lst true (es.set k (.lst true [])) :: ds) := by
  obtain ⟨f1, f2, A, ⟨_, _, g1, g2, e, h, b2, q⟩, w, io⟩ := s
  cases e
  obtain ⟨a', us, g3, e', hx, h3, q3⟩ := h
  cases e'
  have tot : ∀ x, f1 x + f2 x = f1 x + ((if x = a then 1 else 0) + g3 x + g2 x) := fun x => by rw [q, q3]
  have nd : ∀ x, f1 x + ((if x = a then 1 else 0) + g3 x + g2 x) ≤ 1 := fun x => by rw [← tot]; exact w.nd x
  obtain ⟨b, xs, k1, k2, k3, g', k4, k5⟩ := RepOs.clr h3 hk fun x => by have := nd x; omega
  have nb := nd b
  have hba : a ≠ b := fun e => by subst e; rw [if_pos rfl] at nb; omega
  rw [if_neg (fun e => hba e.symm)] at nb
  have off : ∀ {φ : Ct}, φ b = 0 → ∀ x, 0 < φ x → upd H b (.lst []) x = H x := fun {φ} hz x hx => upd_ne fun e => by rw [e, hz] at hx; omega
  have fb : F b = none := w.dF b (by show 0 < f1 b + f2 b; rw [tot]; omega)
  have rb : B.R b = none := w.dR b (by show 0 < f1 b + f2 b; rw [tot]; omega)
  refine ⟨us, b, xs, hx, k1, k2, f1, fun x => ((if x = a then 1 else 0) + g' x) + g2 x, A.mono (Same.refl _) (off (by omega)), ⟨.ref a, vs, fun x => (if x = a then 1 else 0) + g' x, g2, rfl, ⟨a, us, g', rfl, (upd_ne hba).trans hx, k4, fun _ => rfl⟩, RepOs.mono (Same.refl _) _ _ _ (off (by omega)) b2, fun _ => rfl⟩, ?_, io⟩
  have w2 : Wd B F H (fun x => f1 x + (((if x = a then 1 else 0) + g' x) + g2 x)) := w.less fun x => by
    show f1 x + (((if x = a then 1 else 0) + g' x) + g2 x) ≤ f1 x + f2 x
    have := tot x; have := k5 x; omega
  exact ⟨w2.nd, w2.dF, w2.dR, fun x o e => by rw [upd_ne (ne_of_none e fb)]; exact w.sF x o e, fun x o e => by rw [upd_ne (ne_of_none e rb)]; exact w.sR x o e, w.s0, w.fr⟩
def clrL (k : Nat) (es : List D) : List D := List.replicate k (.lst true []) ++ es.drop k
def sClearEach (i j : Nat) : MS := fun τ => match τ.getD i none with
  | some (.lst true es) => if es.all isOwnL = true ∧ j < τ.length then .nx ((τ.set j none).set i (some (.lst true (clrL es.length es)))) else .bad
  | _ => .bad
/-! ### pop, insert -/
theorem RepOs.insI {K : PySem.W.Frag} {ca : Str → Addr} {F H : Hp} {d0 : D} {v0 : V} {f0 : Ct} (h0 : RepO K ca F H d0 v0 f0) : ∀ {es : List D} {us : List V} {g : Ct} (k : Nat), RepOs K ca F H es us g → ∃ g', RepOs K ca F H (es.take k ++ [d0] ++ es.drop k) (us.take k ++ [v0] ++ us.drop k) g' ∧ ∀ x, g' x ≤ g x + f0 x
  | es, us, g, 0, h => by
    refine ⟨fun x => f0 x + g x, ?_, fun x => by show f0 x + g x ≤ g x + f0 x; omega⟩
    simp only [List.take_zero, List.drop_zero, List.nil_append, List.singleton_append]
    exact ⟨v0, us, f0, g, rfl, h0, h, fun _ => rfl⟩
  | [], us, g, k + 1, h => by
    have e : us = [] := h.1
    subst e
    refine ⟨f0, ?_, fun x => by omega⟩
    exact ⟨v0, [], f0, fun _ => 0, rfl, h0, ⟨rfl, fun _ => rfl⟩, fun _ => rfl⟩
  | d :: es, _, g, k + 1, ⟨v, r, f1, f2, e, h1, h2, h3⟩ => by
    subst e
    obtain ⟨g', k1, k2⟩ := RepOs.insI h0 k h2
    exact ⟨fun x => f1 x + g' x, ⟨v, _, f1, g', rfl, h1, k1, fun _ => rfl⟩, fun x => by show f1 x + g' x ≤ g x + f0 x; rw [h3]; have := k2 x; omega⟩
def popD (es : List D) (k : Int) : Option (List D) := if -(2 ^ 63) ≤ k ∧ k < 2 ^ 63 then (ixN es.length k).map fun j => es.eraseIdx j else none
def sPopAt (i : Nat) (mi : MZ) : MS := fun τ => match τ.getD i none with
  | some (.lst true es) => (match mi τ with
    | some (.int k) => (match popD es k with
      | some es' => .nx (τ.set i (some (.lst true es')))
      | none => .bad)
    | _ => .bad)
  | _ => .bad
def sIns (i : Nat) (mi : MZ) (m : ME) : MS := fun τ => match τ.getD i none, mi τ with
  | some (.lst true _), some (.int k) => (m τ).s fun d τ1 => (match τ1.getD i none with
    | some (.lst true es) => if es.length < 1000000 ∧ 0 ≤ k ∧ k < 2 ^ 63 then .nx (τ1.set i (some (.lst true (es.take k.toNat ++ [d] ++ es.drop k.toNat)))) else .bad
    | _ => .bad)
  | _, _ => .bad
end
end Bn

/-! range(i, j, -1) -/
namespace Bn
open PySem PySem.Spec PyProof.Rows L2
def rangeN (lo : Int) (n : Nat) : List D := (List.range n).map fun k => D.int (lo + (k : Nat) * (-1))
def iR3 (m : MA) : MA := fun τ => (m τ).bind fun ds τ1 => match ds with
  | [.int i, .int j, .int c] => if c = -1 ∧ -(2 ^ 62) ≤ i ∧ i < 2 ^ 62 ∧ -(2 ^ 62) ≤ j ∧ j < 2 ^ 62 then .ok (rangeN i (i - j).toNat) τ1 else .bad
  | _ => .bad
/-! ### a slice of a list that its name keeps -/
section
variable {X : Cx} {B : Bx} {W : WX}
def skQ (rr : R (Option Int)) (es : List D) (lo : Option Int) (i : Nat) : R D := match rr with
  | .ok hi τ2 => .ok (.lst true (cutL es lo hi)) (τ2.set i (some (.lst true es)))
  | _ => .bad
def skP (rp : R (Option Int)) (es : List D) (i : Nat) (r : Env → R (Option Int)) : R D := match rp with
  | .ok lo τ1 => skQ (r τ1) es lo i
  | _ => .bad
def skD (o : Option D) (i : Nat) (p r : Env → R (Option Int)) (τ : Env) : R D := match o with
  | some (.lst true es) => if es.all isFz = true then skP (p (τ.set i none)) es i r else .bad
  | _ => .bad
def eSliceK (i : Nat) (p r : Env → R (Option Int)) : ME := fun τ => skD (τ.getD i none) i p r τ
/-! ### list(xs) of a list that its name keeps -/
def lkR (o : Option D) (τ : Env) : R D := match o with
  | some (.lst true es) => if es.all isFz = true then .ok (.lst true es) τ else .bad
  | _ => .bad
def eLstK (i : Nat) : ME := fun τ => lkR (τ.getD i none) τ
/-! ### a call whose first argument is a list that its name keeps -/
def ckR (g : List D → CR) (o : Option D) (es : List D) (τ : Env) : R D := match o with
  | some d => lendR (g (freezeL [d] ++ freezeL es)) τ
  | none => .bad
def eCallK (g : List D → CR) (i : Nat) (m : MA) : ME := fun τ => if (τ.getD i none).isSome = true then (m τ).bind fun es τ1 => ckR g (τ1.getD i none) es τ1 else .bad
end
end Bn

/-! defs that call themselves; int(..) of truths; tuple(xs). -/
namespace Bn
open PySem PySem.Spec PyProof.Rows L2
section
variable {P : Program} {w : World} {K : PySem.W.Frag} {mg : Str → Option Value} {base : Heap} {ca : Str → Addr}
theorem Fo.at {x : Str} {g : List D → CR} {k j : Nat} (F : Fo P w K mg base ca k x g) (h : k = j) : Fo P w K mg base ca j x g := h ▸ F
end
def gInt : List D → Option D
  | [.int i] => some (.int i)
  | [.bl b] => some (.int (if b then 1 else 0))
  | _ => none
/-- str(i) -/
def gStrI : List D → Option D
  | [.int i] => if i.natAbs.log2 < 1920 then some (.str (toString i)) else none
  | _ => none
/-- tuple(xs) -/
def eTupOf (m : MA) : ME := fun τ => (m τ).bind fun ds τ1 => match freezeL ds with
  | [.lst _ es] => .ok (.tup es) τ1
  | [.tup es] => .ok (.tup es) τ1
  | _ => .bad
end Bn
namespace Bn
open PySem PySem.Spec PyProof.Rows L2
/-! ### // by a number of either sign -/
def CDivX (i j : Int) : Prop := j ≠ 0 ∧ j.natAbs.log2 < 9000
instance {i j : Int} : Decidable (CDivX i j) := by unfold CDivX; infer_instance
def gDivX : D → D → Option D := gIC CDivX fun i j => .int (i.fdiv j)
end Bn
namespace Bn
open PySem PySem.Spec PyProof.Rows L2
/-- a value given up at once -/
def eFz (m : ME) : ME := fun τ => (m τ).bind fun d τ1 => .ok (freeze d) τ1
end Bn
namespace Bn
open PySem PySem.Spec PyProof.Rows L2
/-! ### a walk over a list of numbers that no one changes -/
section
variable {X : Cx} {B : Bx} {W : WX}
def iK' (d : D) (τ : Env) : R (List D) := match d with
  | .cst es => .ok es τ
  | _ => .bad
def iK (m : ME) : MA := fun τ => (m τ).bind fun d τ1 => iK' d τ1
end
end Bn
namespace Bn
open PySem PySem.Spec PyProof.Rows L2
/-! ### a walk over a list that its name keeps -/
def Bx.io1 (B : Bx) (i : Nat) (v : V) : Bx := ⟨B.ca, B.F0, B.R, (i, v) :: B.io⟩
def fbR (i : Nat) (es : List D) (r : SR) : SR := match r with
  | .nx τ2 => .nx (τ2.set i (some (.lst true es)))
  | .rt d τ2 => .rt d τ2
  | .ex c τ2 => .ex c τ2
  | _ => .bad
def fbD (o : Option D) (i : Nat) (g : D → Env → Option Env) (b : MS) (τ : Env) : SR := match o with
  | some (.lst true es) => if es.all isFz = true then fbR i es (forL g b es (τ.set i none)) else .bad
  | _ => .bad
def sForB (i : Nat) (g : D → Env → Option Env) (b : MS) : MS := fun τ => fbD (τ.getD i none) i g b τ
section
variable {X : Cx} {B : Bx} {W : WX}
theorem StT.io1 {K : PySem.W.Frag} {F H : Hp} {σ : L2.St} {τ : Env} {vs : List V} {ds : List D} {i : Nat} {v : V} (s : StT K B F H σ τ vs ds) (h : σ[i]? = some (some v)) : StT K (B.io1 i v) F H σ τ vs ds := by
  obtain ⟨f1, f2, a, b, w, io⟩ := s
  exact ⟨f1, f2, a, b, ⟨w.nd, w.dF, w.dR, w.sF, w.sR, w.s0, w.fr⟩, fun p hp => by
    rcases List.mem_cons.mp hp with rfl | hp
    · exact h
    · exact io p hp⟩
end
end Bn
namespace Bn
open PySem PySem.Spec PyProof.Rows L2
section
variable {X : Cx} {B : Bx} {W : WX}
/-- a list's truth: whether it has an element -/
def tL (m : MZ) : MT := fun τ => match m τ with
  | some (.lst _ es) => .ok (!es.isEmpty) τ
  | _ => .bad
end
end Bn
namespace Bn
open PySem PySem.Spec PyProof.Rows L2
section
variable {X : Cx} {B : Bx} {W : WX}
end
end Bn

/-! Objects that change: attributes that are owned lists; methods that change their object. -/
namespace Bn
open PySem PySem.Spec PyProof.Rows L2
/-! ### one attribute taken out and put back -/
def putL (f : Str) (e : D) : List Str → List D → List D
  | n :: ns, x :: xs => if f = n then e :: xs else x :: putL f e ns xs
  | _, xs => xs
section
variable {K : PySem.W.Frag} {ca : Str → Addr} {F H : Hp} {f : Str}
end
section
variable {K : PySem.W.Frag} {B : Bx} {F H : Hp} {σ : L2.St} {τ : Env} {vs us : List V} {ds es : List D} {v : V} {d : D}
end
section
variable {X : Cx} {B : Bx} {W : WX}
/-! ### x.f.append(e) -/
def appF2 (i : Nat) (c f : Str) (ns : List Str) (xs es : List D) (r : R D) : SR := r.s fun d τ1 => .nx (τ1.set i (some (.obj true c ns (putL f (.lst true (es ++ [d])) ns xs))))
def appFL (i : Nat) (c f : Str) (ns : List Str) (xs : List D) (o : Option D) (r : R D) : SR := match o with
  | some (.lst true es) => if es.length < 1000000 then appF2 i c f ns xs es r else .bad
  | _ => .bad
def appF1 (i : Nat) (c f : Str) (o : Option D) (r : R D) : SR := match o with
  | some (.obj true c' ns xs) => if c' = c then appFL i c f ns xs (lookD f ns xs) r else .bad
  | _ => .bad
def sAppF (i : Nat) (c f : Str) (m : ME) : MS := fun τ => appF1 i c f (τ.getD i none) (m (τ.set i none))
theorem slen {K : PySem.W.Frag} {F H : Hp} {σ : L2.St} {τ : Env} {vs : List V} {ds : List D} (s : StT K B F H σ τ vs ds) : σ.length = τ.length := by
  obtain ⟨_, _, A, _⟩ := s; exact A.length
/-! ### x.f[k] = e -/
def setF3 (i : Nat) (c f : Str) (ns : List Str) (xs : List D) (o : Option (List D)) (τ : Env) : SR := match o with
  | some es' => .nx (τ.set i (some (.obj true c ns (putL f (.lst true es') ns xs))))
  | none => .bad
def setF2 (i : Nat) (c f : Str) (ns : List Str) (xs es : List D) (k : Option D) (d : D) (τ : Env) : SR := match k with
  | some (.int k) => setF3 i c f ns xs (setD es k d) τ
  | _ => .bad
def setFL (i : Nat) (c f : Str) (ns : List Str) (xs : List D) (o : Option D) (k : Option D) (d : D) (τ : Env) : SR := match o with
  | some (.lst true es) => setF2 i c f ns xs es k d τ
  | _ => .bad
def setF1 (i : Nat) (c f : Str) (o : Option D) (k : Option D) (d : D) (τ : Env) : SR := match o with
  | some (.obj true c' ns xs) => if c' = c then setFL i c f ns xs (lookD f ns xs) k d τ else .bad
  | _ => .bad
def sSetIxF (i : Nat) (c f : Str) (mi : MZ) (m : ME) : MS := fun τ => (m τ).s fun d τ1 => setF1 i c f (τ1.getD i none) (mi τ1) d τ1
/-! ### x.f = e -/
def putFld (f : Str) (d : D) (c : Str) (ns : List Str) (xs : List D) : D := if ns.contains f = true then .obj true c ns (putL f d ns xs) else .obj true c (ns ++ [f]) (xs ++ [d])
def fldS (i : Nat) (c f : Str) (o : Option D) (d : D) (τ : Env) : SR := match o with
  | some (.obj true c' ns xs) => if c' = c ∧ ns.length < 999 then .nx (τ.set i (some (putFld f d c ns xs))) else .bad
  | _ => .bad
def sSetFld (i : Nat) (c f : Str) (m : ME) : MS := fun τ => (m τ).s fun d τ1 => fldS i c f (τ1.getD i none) d τ1
end
/-! ### a class whose __init__ is walked; a method that changes its object -/
section
variable {P : Program} {w : World} {K : PySem.W.Frag} {mg : Str → Option Value} {base : Heap} {ca : Str → Addr}
structure MkI (P : Program) (w : World) (K : PySem.W.Frag) (mg : Str → Option Value) (base : Heap) (ca : Str → Addr) (j : Nat) (x : Str) (g : List D → CR2) : Prop where
  ex : ∃ k f fd ps, k + 1 ≤ j ∧ Mk K (ca x) f ∧ mg x = some (.ref (ca x)) ∧ Binds K fd ps [] ∧ FnOk P w K mg base (L2.CX P w) k f fd ps (spIO K ca 1 g)
structure MFoI (P : Program) (w : World) (K : PySem.W.Frag) (mg : Str → Option Value) (base : Heap) (ca : Str → Addr) (j : Nat) (c m : Str) (g : List D → CR2) : Prop where
  ex : ∃ k f fd ps, k ≤ j ∧ Meth K (ca c) m f ∧ Binds K fd ps [] ∧ FnOk P w K mg base (L2.CX P w) k f fd ps (spIO K ca 1 g)
  cl : Cls K (ca c)
end
def mkI (r : CR2) (τ : Env) : R D := match r with
  | .ok .non [o] => .ok o τ
  | _ => .bad
def eMakeI (c : Str) (g : List D → CR2) (m : MA) : ME := fun τ => (m τ).bind fun ds τ1 => mkI (g (.obj true c [] [] :: freezeL ds)) τ1
def methI2 (r : CR2) (i : Nat) (τ : Env) : R D := match r with
  | .ok d [o] => .ok d (τ.set i (some o))
  | _ => .bad
def methI1 (o : Option D) (g : List D → CR2) (i : Nat) (ds : List D) (τ : Env) : R D := match o with
  | some d => methI2 (g (d :: freezeL ds)) i (τ.set i none)
  | none => .bad
def methOk (c m : Str) (o : Option D) : Bool := match o with
  | some (.obj true c' ns _) => decide (c' = c) && !ns.contains m
  | _ => false
def eMethI (c m : Str) (g : List D → CR2) (i : Nat) (ma : MA) : ME := fun τ => if methOk c m (τ.getD i none) = true then (ma τ).bind fun ds τ1 => methI1 (τ1.getD i none) g i ds τ1 else .bad
section
variable {X : Cx} {B : Bx} {W : WX}
/-- a method without further arguments, of an object that it only reads -/
def lendR0 (r : CR) (τ : Env) : R D := match r with
  | .ok d => if clean d = true then .ok d τ else .bad
  | _ => .bad
def mz0B (o : Option (List D → CR)) (m : Str) (b : Bool) (c : Str) (ns : List Str) (xs : List D) (τ : Env) : R D := match o with
  | some g => if ns.contains m = true then .bad else lendR0 (g (freezeL [.obj b c ns xs])) τ
  | none => .bad
def mz0A (As : List (Str × (List D → CR))) (m : Str) (o : Option D) (τ : Env) : R D := match o with
  | some (.obj b c ns xs) => mz0B (As.lookup c) m b c ns xs τ
  | _ => .bad
def eMethZ0 (As : List (Str × (List D → CR))) (m : Str) (i : Nat) : ME := fun τ => mz0A As m (τ.getD i none) τ
/-- a method without further arguments, of an object that is given up to it -/
def m0C (r : CR) (i : Nat) (τ : Env) : R D := match r with
  | .ok d => .ok d (τ.set i none)
  | _ => .bad
def m0B (o : Option (List D → CR)) (m : Str) (b : Bool) (c : Str) (ns : List Str) (xs : List D) (i : Nat) (τ : Env) : R D := match o with
  | some g => if ns.contains m = true then .bad else m0C (g [freeze (.obj b c ns xs)]) i τ
  | none => .bad
def m0A (As : List (Str × (List D → CR))) (m : Str) (o : Option D) (i : Nat) (τ : Env) : R D := match o with
  | some (.obj b c ns xs) => m0B (As.lookup c) m b c ns xs i τ
  | _ => .bad
def eMeth0 (As : List (Str × (List D → CR))) (m : Str) (i : Nat) : ME := fun τ => m0A As m (τ.getD i none) i τ
/-! ### a comparison whose second part is only looked at -/
def e2Z (g : D → D → Option D) (m : ME) (n : MZ) : ME := fun τ => (m τ).bind fun a τ1 => ofO ((n τ1).bind fun b => g a b) τ1
end
/-! ### a tuple that owns its parts -/
section
variable {X : Cx} {B : Bx} {W : WX}
def eTupW (m : MA) : ME := fun τ => (m τ).bind fun ds τ1 => if ds.length ≤ 1000000 then .ok (.tpo ds) τ1 else .bad
def gTW (n : Nat) (g : List D → Env → Option Env) : D → Env → Option Env := fun d τ => match d with
  | .tpo es => if es.length = n then g es τ else none
  | _ => none
end
/-! ### a part is taken out of a tuple that owns it -/
section
variable {X : Cx} {B : Bx} {W : WX}
def tkD (a b : D) (τ : Env) : R D := match a, b with
  | .tpo xs, .int i => (match atI xs i with
    | some d => .ok d τ
    | none => .bad)
  | _, _ => .bad
def eTk (m n : ME) : ME := fun τ => (m τ).bind fun a τ1 => (n τ1).bind fun b τ2 => tkD a b τ2
end
/-! ### a part of an owned list or tuple is changed where it stands: x[c].append(e), x[c][k] = e -/
section
variable {K : PySem.W.Frag} {ca : Str → Addr} {F H : Hp}
end
def conD : D → Option (List D)
  | .lst true xs => some xs
  | .tpo xs => some xs
  | _ => none
def withD : D → List D → D
  | .lst true _, ys => .lst true ys
  | .tpo _, ys => .tpo ys
  | d, _ => d
section
variable {K : PySem.W.Frag} {B : Bx} {F H : Hp} {σ : L2.St} {τ : Env} {vs us : List V} {ds es : List D} {v : V} {d : D}
end
def appX3 (i : Nat) (c : D) (xs es : List D) (n : Nat) (r : R D) : SR := if es.length < 1000000 then r.s fun d τ1 => .nx (τ1.set i (some (withD c (xs.set n (.lst true (es ++ [d])))))) else .bad
def appX2 (i : Nat) (c : D) (xs : List D) (n : Nat) (o : Option D) (r : R D) : SR := match o with
  | some (.lst true es) => appX3 i c xs es n r
  | _ => .bad
def appX1 (i : Nat) (c : D) (xs : List D) (j : Int) (r : R D) : SR := match ixN xs.length j with
  | some n => appX2 i c xs n xs[n]? r
  | none => .bad
def appX0 (i : Nat) (c : Option D) (k : Option D) (r : R D) : SR := match c, k with
  | some c, some (.int j) => (match conD c with
    | some xs => appX1 i c xs j r
    | none => .bad)
  | _, _ => .bad
def sAppX (i : Nat) (mi : MZ) (m : ME) : MS := fun τ => appX0 i (τ.getD i none) (mi τ) (m (τ.set i none))
def setX3 (i : Nat) (c : D) (xs : List D) (n : Nat) (o : Option (List D)) (τ : Env) : SR := match o with
  | some es' => .nx (τ.set i (some (withD c (xs.set n (.lst true es')))))
  | none => .bad
def setX2 (i : Nat) (c : D) (xs : List D) (n : Nat) (o : Option D) (k : Option D) (d : D) (τ : Env) : SR := match o, k with
  | some (.lst true es), some (.int k) => setX3 i c xs n (setD es k d) τ
  | _, _ => .bad
def setX1 (i : Nat) (c : D) (xs : List D) (j : Int) (k : Option D) (d : D) (τ : Env) : SR := match ixN xs.length j with
  | some n => setX2 i c xs n xs[n]? k d τ
  | none => .bad
def setX0 (i : Nat) (c : Option D) (j : Option D) (k : Option D) (d : D) (τ : Env) : SR := match c, j with
  | some c, some (.int j) => (match conD c with
    | some xs => setX1 i c xs j k d τ
    | none => .bad)
  | _, _ => .bad
def sSetIxX (i : Nat) (mj mi : MZ) (m : ME) : MS := fun τ => (m τ).s fun d τ1 => setX0 i (τ1.getD i none) (mj τ1) (mi τ1) d τ1
section
variable {X : Cx} {B : Bx} {W : WX}
end
end Bn
namespace Bn
open PySem PySem.Spec PyProof.Rows L2
/-! ### a walk over an owned list whose parts the loop's name may change -/
section
variable {K : PySem.W.Frag} {B : Bx} {F H : Hp} {σ : L2.St} {τ : Env} {vs : List V} {ds : List D} {v : V} {d : D}
end
def fxB (j : Nat) (r : SR) : Option (D × Env) := match r with
  | .nx τ2 => (τ2.getD j none).map fun d => (d, τ2.set j none)
  | .ct τ2 => (τ2.getD j none).map fun d => (d, τ2.set j none)
  | _ => none
def fxL (j : Nat) (b : MS) : List D → List D → Env → Option (List D × Env)
  | done, [], τ => some (done, τ)
  | done, d :: r, τ => if j < τ.length then (fxB j (b (τ.set j (some d)))).bind fun p => fxL j b (done ++ [p.1]) r p.2 else none
def fxS (i : Nat) (o : Option (List D × Env)) : SR := match o with
  | some p => .nx (p.2.set i (some (.lst true p.1)))
  | none => .bad
def fxD (o : Option D) (i j : Nat) (b : MS) (τ : Env) : SR := match o with
  | some (.lst true es) => fxS i (fxL j b [] es (τ.set i none))
  | _ => .bad
def sForX (i j : Nat) (b : MS) : MS := fun τ => fxD (τ.getD i none) i j b τ
section
variable {X : Cx} {B : Bx} {W : WX}
/-! ### list(..) of a list that is only looked at -/
def lzR (o : Option D) (τ : Env) : R D := match o with
  | some (.lst true es) => if es.all isFz = true then .ok (.lst true es) τ else .bad
  | _ => .bad
def eLstZ (m : MZ) : ME := fun τ => lzR (m τ) τ
end
/-! ### x[c][k].append(e) -/
def axx4 (i : Nat) (c : D) (xs : List D) (n : Nat) (c2 : D) (ys : List D) (n2 : Nat) (o : Option D) (r : R D) : SR := match o with
  | some (.lst true es) => if es.length < 1000000 then r.s fun d τ1 => .nx (τ1.set i (some (withD c (xs.set n (withD c2 (ys.set n2 (.lst true (es ++ [d])))))))) else .bad
  | _ => .bad
def axx3 (i : Nat) (c : D) (xs : List D) (n : Nat) (c2 : D) (ys : List D) (j2 : Int) (r : R D) : SR := match ixN ys.length j2 with
  | some n2 => axx4 i c xs n c2 ys n2 ys[n2]? r
  | none => .bad
def axx2 (i : Nat) (c : D) (xs : List D) (n : Nat) (o : Option D) (k2 : Option D) (r : R D) : SR := match o, k2 with
  | some c2, some (.int j2) => (match conD c2 with
    | some ys => axx3 i c xs n c2 ys j2 r
    | none => .bad)
  | _, _ => .bad
def axx1 (i : Nat) (c : D) (xs : List D) (j : Int) (k2 : Option D) (r : R D) : SR := match ixN xs.length j with
  | some n => axx2 i c xs n xs[n]? k2 r
  | none => .bad
def axx0 (i : Nat) (c : Option D) (k k2 : Option D) (r : R D) : SR := match c, k with
  | some c, some (.int j) => (match conD c with
    | some xs => axx1 i c xs j k2 r
    | none => .bad)
  | _, _ => .bad
def sAppXX (i : Nat) (mi mj : MZ) (m : ME) : MS := fun τ => axx0 i (τ.getD i none) (mi τ) (mj τ) (m (τ.set i none))
section
variable {X : Cx} {B : Bx} {W : WX}
end
end Bn
namespace Bn
open PySem PySem.Spec PyProof.Rows L2
/-! ### xs.count(x) -/
section
variable {X : Cx}
def rCountD (K : PySem.W.Frag) : V → List V → Hp → VK → Prop := fun x xs H Q => ∃ (a : Addr) (y : V) (d : PyData) (ds : List PyData), x = V.ref a ∧ xs = [y] ∧ Dp K H (V.ref a) (.list ds) ∧ Dp K H y d ∧
  SeqAt.shaped (.list ds) = true ∧ SeqAt.shaped d = true ∧ Q (.int ((ds.countP fun z => PyData.eqv z d : Nat) : Int)) H
end
def gCount (b a : D) : Option D := match b with
  | .lst m xs => if okP a = true ∧ okP (.lst m xs) = true then some (.int (((toPs xs).countP fun z => PyData.eqv z (toP a) : Nat) : Int)) else none
  | _ => none
section
variable {X : Cx} {B : Bx} {W : WX}
end
end Bn
namespace Bn
open PySem PySem.Spec PyProof.Rows L2
/-! ### dicts: {}, k in d, d[k] = e -/
section
variable {K : PySem.W.Frag} {B : Bx} {F H : Hp} {σ : L2.St} {τ : Env} {vs us : List V} {ds es : List D} {v y : V} {d : D}
theorem StT.newDct (s : StT K B F H σ τ vs ds) {p : Addr} (hp : H p = none) : StT K B F (upd H p (.dK [])) σ τ (.ref p :: vs) (.dct true [] [] :: ds) := by
  obtain ⟨f1, f2, a, b, w, io⟩ := s
  have k1 : ∀ x, 0 < f1 x → upd H p (.dK []) x = H x := fun x hx => upd_ne fun e => a.there x hx (e ▸ hp)
  have k3 : ∀ x, 0 < f2 x → upd H p (.dK []) x = H x := fun x hx => upd_ne fun e => b.there _ _ _ x hx (e ▸ hp)
  have z : f1 p + f2 p = 0 := by
    have h1 : ¬ 0 < f1 p := fun h => a.there p h hp
    have h2 : ¬ 0 < f2 p := fun h => b.there _ _ _ p h hp
    omega
  refine ⟨f1, fun b => ((if b = p then 1 else 0) + 0) + f2 b, a.mono (Same.refl _) k1, ⟨.ref p, vs, fun b => (if b = p then 1 else 0) + 0, f2, rfl, ⟨p, [], fun _ => 0, rfl, upd_same, rfl, ⟨rfl, fun _ => rfl⟩, fun _ => rfl⟩, RepOs.mono (Same.refl _) _ _ _ k3 b, fun _ => rfl⟩, ?_, io⟩
  have e : (fun b => f1 b + (((if b = p then 1 else 0) + 0) + f2 b)) = fun b => (if b = p then 1 else 0) + (f1 b + f2 b) := funext fun b => by omega
  rw [e]
  exact w.owned hp z
end
def eDct : ME := fun τ => .ok (.dct true [] []) τ
section
variable {X : Cx} {B : Bx} {W : WX}
theorem e_dct {pos : Pos} : PE X (.Dict [] [] pos) (rdE X.K B W eDct) := PE.imp pe_dnewK fun σ H Q ⟨F, τ, vs, ds, s, p⟩ => fun q hq => p (.ref q) F (upd H q (.dK [])) (s.newDct hq)
end
/-- k in d -/
def rDIn (neg : Bool) : R2 := fun x y H Q => ∃ a o, y = .ref a ∧ DGet H a x o ∧ Q (.bl (if neg = true then !o.isSome else o.isSome)) H
theorem op_dIn {X : Cx} (hu : X.A.units + 65 < cLine) : OpR X (compareOp .In) (rDIn false) := by
  intro pins s σ H x y v u Q I rx ry h
  obtain ⟨a, o, rfl, g, q⟩ := h
  obtain rfl : u = Value.ref a := ry
  exact d_in (by omega) I g rx fun s3 I3 => ⟨.bl o.isSome, H, I3, rfl, q⟩
def memK (k : Key) (ks : List Key) : Bool := ks.any fun k' => decide (k' = k)
theorem valV_zip {k : Key} : ∀ {ks : List Key} {us : List V}, ks.length = us.length → (valV (ks.zip us) k).isSome = memK k ks
  | [], us, _ => rfl
  | k' :: ks, [], h => by cases h
  | k' :: ks, u :: us, h => by
    rw [List.zip_cons_cons]
    show _ = (decide (k' = k) || memK k ks)
    by_cases e : k' = k
    · rw [valV_pos (p := (k', u)) e, decide_eq_true e]; rfl
    · rw [valV_neg (p := (k', u)) e, valV_zip (by simpa using h), decide_eq_false e, Bool.false_or]
def gDIn (neg : Bool) (a b : D) : Option D := match a, b with
  | .int k, .dct true ks _ => some (.bl (if neg = true then !memK (.inl k) ks else memK (.inl k) ks))
  | _, _ => none
theorem sDIn {K : PySem.W.Frag} {neg : Bool} : OpS K (rDIn neg) (gDIn neg) := by
  intro ca F H x y a b d f1 f2 Q sm hx hy e q
  unfold gDIn at e
  split at e
  · rename_i k ks xs
    cases e
    obtain rfl : x = V.int k := hx.1
    obtain ⟨p, us, g, rfl, h2, h3, _⟩ := hy
    refine ⟨p, _, rfl, DGet.k (k := .inl k) h2, ?_⟩
    rw [valV_zip h3]
    exact q _ (fun _ => 0) ⟨rfl, fun _ => rfl⟩
  · cases e
/-- d[k] = e, for what never changes -/
def dputK (ks : List Key) (k : Key) : List Key := if memK k ks = true then ks else ks ++ [k]
def dputX {α : Type} (ks : List Key) (xs : List α) (k : Key) (d : α) : List α := if memK k ks = true then ks.zipWith (fun k' x => if k' = k then d else x) xs else xs ++ [d]
theorem zw_len {α : Type} (k : Key) (d : α) : ∀ (ks : List Key) (xs : List α), ks.length = xs.length → (ks.zipWith (fun k' x => if k' = k then d else x) xs).length = ks.length
  | [], _, _ => rfl
  | _ :: _, [], h => by cases h
  | k' :: ks, x :: xs, h => by rw [List.zipWith_cons_cons, List.length_cons, List.length_cons, zw_len k d ks xs (by simpa using h)]
theorem dput_len {α : Type} {ks : List Key} {xs : List α} (k : Key) (d : α) (h : ks.length = xs.length) : (dputK ks k).length = (dputX ks xs k d).length := by
  unfold dputK dputX
  split
  · rw [zw_len k d ks xs h]
  · rw [List.length_append, List.length_append, h]; rfl
theorem putK_zip {k : Key} {y : V} : ∀ {ks : List Key} {us : List V}, ks.length = us.length → putK (ks.zip us) k y = (dputK ks k).zip (dputX ks us k y) := fun {ks us} h => by
  unfold putK dputK dputX
  rw [valV_any, valV_zip h]
  by_cases c : memK k ks = true
  · rw [if_pos c, if_pos c, if_pos c]
    clear c
    induction ks generalizing us with
    | nil => rfl
    | cons k' ks ih =>
      cases us with
      | nil => cases h
      | cons u us =>
        rw [List.zip_cons_cons, List.map_cons, List.zipWith_cons_cons, List.zip_cons_cons, ih (by simpa using h)]
        by_cases e : k' = k
        · rw [if_pos e, if_pos e]
        · rw [if_neg e, if_neg e]
  · rw [if_neg c, if_neg c, if_neg c, List.zip_append h]; rfl
section
variable {K : PySem.W.Frag} {B : Bx} {F H : Hp} {σ : L2.St} {τ : Env} {vs : List V} {ds : List D} {y : V} {d : D}
theorem os_zw {ca : Str → Addr} {k : Key} (r : RepO K ca F H d y (fun _ => 0)) : ∀ {ks : List Key} {xs : List D} {us : List V} {g : Ct}, RepOs K ca F H xs us g → ∃ g', RepOs K ca F H (ks.zipWith (fun k' x => if k' = k then d else x) xs) (ks.zipWith (fun k' u => if k' = k then y else u) us) g' ∧ ∀ b, g' b ≤ g b
  | [], _, _, _, _ => ⟨fun _ => 0, ⟨rfl, fun _ => rfl⟩, fun _ => Nat.zero_le _⟩
  | k' :: ks, [], us, g, h => by
    obtain ⟨rfl, h⟩ := h
    exact ⟨fun _ => 0, ⟨rfl, fun _ => rfl⟩, fun _ => Nat.zero_le _⟩
  | k' :: ks, x :: xs, us, g, ⟨u, us', f1, f2, e, h1, h2, h3⟩ => by
    subst e
    obtain ⟨g', k1, k2⟩ := os_zw r (ks := ks) h2
    rw [List.zipWith_cons_cons, List.zipWith_cons_cons]
    by_cases c : k' = k
    · rw [if_pos c, if_pos c]
      exact ⟨fun b => 0 + g' b, ⟨y, _, fun _ => 0, g', rfl, r, k1, fun _ => rfl⟩, fun b => by show 0 + g' b ≤ g b; have := h3 b; have := k2 b; omega⟩
    · rw [if_neg c, if_neg c]
      exact ⟨fun b => f1 b + g' b, ⟨u, _, f1, g', rfl, h1, k1, fun _ => rfl⟩, fun b => by show f1 b + g' b ≤ g b; have := h3 b; have := k2 b; omega⟩
theorem os_snoc {ca : Str → Addr} (r : RepO K ca F H d y (fun _ => 0)) : ∀ {xs : List D} {us : List V} {g : Ct}, RepOs K ca F H xs us g → RepOs K ca F H (xs ++ [d]) (us ++ [y]) g := fun {xs us g} h => by
  have h2 : RepOs K ca F H [d] [y] (fun _ => 0) := ⟨y, [], fun _ => 0, fun _ => 0, rfl, r, ⟨rfl, fun _ => rfl⟩, fun _ => rfl⟩
  have := h.append h2
  have e : (fun b => g b + 0) = g := funext fun b => by omega
  rw [e] at this
  exact this
theorem StT.changeD {a : Addr} {ks : List Key} {xs : List D} {us : List V} (s : StT K B F H σ τ (.ref a :: y :: vs) (.dct true ks xs :: d :: ds)) (z : isFz d = true) (hx : H a = some (.dK (ks.zip us))) (hl : ks.length = us.length) (hr : ∃ g, RepOs K B.ca F H xs us g) (k : Key) :
    StT K B F (upd H a (.dK (putK (ks.zip us) k y))) σ τ (.ref a :: vs) (.dct true (dputK ks k) (dputX ks xs k d) :: ds) := by
  obtain ⟨f1, f2, A, ⟨_, _, g1, g2, e, h, ⟨_, _, g4, g5, e5, hy, b2, q2⟩, q⟩, w, io⟩ := s
  cases e
  cases e5
  obtain ⟨a', us', g3, e', hx', hl', h3, q3⟩ := h
  cases e'
  have eu : us' = us := by
    rw [hx] at hx'
    have h9 : ks.zip us = ks.zip us' := by injection hx' with h9; injection h9
    have := congrArg (fun l : List (Key × V) => l.map Prod.snd) h9
    rw [List.map_snd_zip (by omega), List.map_snd_zip (by omega)] at this
    exact this.symm
  subst eu
  have hy0 : RepO K B.ca F H d y (fun _ => 0) := ((repO_fz z).mp hy).1.o
  obtain ⟨g, hg, hle⟩ : ∃ g, RepOs K B.ca F H (dputX ks xs k d) (dputX ks us' k y) g ∧ ∀ b, g b ≤ g3 b := by
    unfold dputX
    split
    · exact os_zw hy0 h3
    · exact ⟨g3, os_snoc hy0 h3, fun _ => Nat.le_refl _⟩
  have one := w.nd a
  have tot : ∀ b, f1 b + f2 b = f1 b + ((if b = a then 1 else 0) + g3 b + (g4 b + g5 b)) := fun b => by rw [q, q3, q2]
  have za : f1 a = 0 ∧ g3 a = 0 ∧ g4 a = 0 ∧ g5 a = 0 := by
    have := tot a
    rw [if_pos rfl] at this
    omega
  have off : ∀ {φ : Ct}, φ a = 0 → ∀ x, 0 < φ x → upd H a (.dK (putK (ks.zip us') k y)) x = H x := fun {φ} hz x hx => upd_ne fun e => by rw [e, hz] at hx; omega
  have zg : g a = 0 := by have := hle a; omega
  refine ⟨f1, fun b => ((if b = a then 1 else 0) + g b) + g5 b, A.mono (Same.refl _) (off za.1), ⟨.ref a, vs, fun b => (if b = a then 1 else 0) + g b, g5, rfl, ⟨a, dputX ks us' k y, g, rfl, by rw [upd_same, putK_zip hl], dput_len k y hl, RepOs.mono (Same.refl _) _ _ _ (off zg) hg, fun _ => rfl⟩,
    RepOs.mono (Same.refl _) _ _ _ (off za.2.2.2) b2, fun _ => rfl⟩, ?_, io⟩
  have w2 : Wd B F H (fun b => f1 b + (((if b = a then 1 else 0) + g b) + g5 b)) := w.less fun b => by
    show f1 b + (((if b = a then 1 else 0) + g b) + g5 b) ≤ f1 b + f2 b
    have := tot b; have := hle b; omega
  have fa : F a = none := w.dF a (by have := tot a; rw [if_pos rfl] at this; show 0 < f1 a + f2 a; omega)
  have ra : B.R a = none := w.dR a (by have := tot a; rw [if_pos rfl] at this; show 0 < f1 a + f2 a; omega)
  exact ⟨w2.nd, w2.dF, w2.dR, fun b x e => by rw [upd_ne (ne_of_none e fa)]; exact w.sF b x e, fun b x e => by rw [upd_ne (ne_of_none e ra)]; exact w.sR b x e, w.s0, w.fr⟩
end
def dpS (i : Nat) (o k : Option D) (d : D) (τ : Env) : SR := match o, k with
  | some (.dct true ks xs), some (.int k) => if isFz d = true ∧ ks.length < 1000000 then .nx (τ.set i (some (.dct true (dputK ks (.inl k)) (dputX ks xs (.inl k) d)))) else .bad
  | _, _ => .bad
def sDPut' (i : Nat) (mk : MZ) (m : ME) : MS := fun τ => (m τ).s fun d τ1 => dpS i (τ1.getD i none) (mk τ1) d τ1
section
variable {X : Cx} {B : Bx} {W : WX}
theorem s_dput {i : Nat} {o ix e : Expr} {pos pos' : Pos} {mk : MZ} {m : ME} (hu : X.A.units + 65 < cLine) (ho : PE X o (tVar i)) (hi : PE X ix (rdZ X.K B mk)) (he : PE X e (rdE X.K B W m)) (hs : swapsWith e (some (.Subscript o ix pos')) pos.line X.env = pure false := by rfl) :
    PS X (.Assign [.Subscript o ix pos'] e pos) (rdS X.K B W (sDPut' i mk m)) :=
  PS.imp (ps_dput (by omega) ho hi he hs) fun D σ H ⟨F, τ, vs, ds, s, p⟩ => by
    refine ⟨F, τ, vs, ds, s, post_imp (post_s (σ := σ) p) (fun d τ1 q y F1 H1 s1 => ?_) fun _ _ q => q⟩
    replace q : postS X.K B W vs ds D (dpS i (τ1.getD i none) (mk τ1) d τ1) := q
    unfold dpS at q
    split at q
    · rename_i ks xs k e0 ek
      by_cases z : isFz d = true ∧ ks.length < 1000000
      · rw [if_pos z] at q
        obtain ⟨v, k1, s2⟩ := s1.take (getD_some e0)
        obtain ⟨f, a, us, g', rfl, h2, h3, h4, _⟩ := s2.top
        refine ⟨.ref a, k1, F1, τ1, _, _, s1, .int k, ek, fun w fw hw => ?_⟩
        obtain rfl : w = V.int k := hw.1
        refine ⟨a, _, rfl, DPut.k (k := .inl k) h2 (by rw [List.length_zip, sizeLine_eq]; omega), ?_⟩
        have s3 := s2.changeD z.1 h2 h3 ⟨g', h4⟩ (.inl k)
        have s4 := s3.putBack (i := i) (by rw [← slen s3]; exact (List.getElem?_eq_some_iff.mp k1).1) k1
        rw [List.set_set] at s4
        exact q σ F1 _ s4
      · rw [if_neg z] at q; exact q.elim
    · exact q.elim
end
end Bn
namespace Bn
open PySem PySem.Spec PyProof.Rows L2
/-! ### a call whose last argument is a list that its name keeps -/
section
variable {X : Cx} {B : Bx} {W : WX}
def rdAL (K : PySem.W.Frag) (B : Bx) (W : WX) (m : MA) (i : Nat) : TA := fun σ H Q => ∃ F τ vs ds, StT K B F H σ τ vs ds ∧ post (fun es τ' => ∀ us F' H', us.length = es.length → StT K B F' H' σ τ' (us ++ vs) (es ++ ds) → ∃ v, σ[i]? = some (some v) ∧ Q (us ++ [v]) H') (exW K B W σ vs ds) (m τ)
def clR (g : List D → CR) (es : List D) (o : Option D) (τ : Env) : R D := match o with
  | some d => lendR (g (freezeL es ++ freezeL [d])) τ
  | none => .bad
def eCallL (g : List D → CR) (m : MA) (i : Nat) : ME := fun τ => (m τ).bind fun es τ1 => clR g es (τ1.getD i none) τ1
end
end Bn

/-! Plain facts of the functions of trees. -/
namespace Bn
open PySem L2
theorem vAdd (i j : Int) : gAdd (.int i) (.int j) = some (.int (i + j)) := rfl
theorem vSub (i j : Int) : gSub (.int i) (.int j) = some (.int (i - j)) := rfl
theorem vMul {i j : Int} (h : CMulW i j) : gMul (.int i) (.int j) = some (.int (i * j)) := if_pos h
theorem vDiv {i j : Int} (h0 : 0 < j) (h : j.natAbs.log2 < 9000) : gDiv (.int i) (.int j) = some (.int (i / j)) := if_pos ⟨h0, h⟩
theorem vMod {i j : Int} (h : 0 < j) : gMod (.int i) (.int j) = some (.int (i % j)) := if_pos h
theorem vPow {i j : Int} (h : CPow i j) : gPow (.int i) (.int j) = some (.int (i ^ j.toNat)) := if_pos h
theorem vLt (i j : Int) : gLt (.int i) (.int j) = some (.bl (decide (i < j))) := rfl
theorem vLe (i j : Int) : gLe (.int i) (.int j) = some (.bl (decide (i ≤ j))) := rfl
theorem vGt (i j : Int) : gGt (.int i) (.int j) = some (.bl (decide (j < i))) := rfl
theorem vGe (i j : Int) : gGe (.int i) (.int j) = some (.bl (decide (j ≤ i))) := rfl
theorem vNeg (i : Int) : gNeg (.int i) = some (.int (-i)) := rfl
theorem vEq (i j : Int) : gEq (.int i) (.int j) = some (.bl (i == j)) := rfl
theorem vNe (i j : Int) : gNe (.int i) (.int j) = some (.bl (!(i == j))) := rfl
theorem vEq2 (a b c d : Int) : gEq (.tup [.int a, .int b]) (.tup [.int c, .int d]) = some (.bl ((a == c) && ((b == d) && true))) := rfl
theorem vNe2 (a b c d : Int) : gNe (.tup [.int a, .int b]) (.tup [.int c, .int d]) = some (.bl (!((a == c) && ((b == d) && true)))) := rfl
theorem vIx0 (xs : List D) (d : D) : gIx (.tup (d :: xs)) (.int 0) = some d := by
  show atI (d :: xs) 0 = some d
  unfold atI ixN
  rw [if_pos (by decide), if_pos (by simp)]
  rfl
theorem atI_of {α : Type} {xs : List α} {k : Nat} {i : Int} (e : i = (k : Int)) : atI xs i = xs[k]? := by
  subst e
  unfold atI ixN
  rw [if_pos (by omega)]
  by_cases h : (k : Int) < xs.length
  · rw [if_pos h]; simp
  · rw [if_neg h]
    rw [List.getElem?_eq_none (by omega)]; rfl
theorem vIxL (m : Bool) (xs : List D) (k : Nat) : gIx (.lst m xs) (.int k) = xs[k]? := atI_of rfl
theorem vIxT (xs : List D) (k : Nat) : gIx (.tup xs) (.int k) = xs[k]? := atI_of rfl
theorem vLenL (m : Bool) (xs : List D) : gLen [.lst m xs] = some (.int xs.length) := rfl
theorem vLenC (xs : List D) : gLen [.cst xs] = some (.int xs.length) := rfl
theorem vLenT (xs : List D) : gLen [.tup xs] = some (.int xs.length) := rfl
theorem vIx1 (xs : List D) (d e : D) : gIx (.tup (d :: e :: xs)) (.int 1) = some e := vIxT (d :: e :: xs) 1
section
variable {α β : Type} {τ τ' : Env} {d : D} {ds : List D} {c : Str} {x : Bool} {i : Nat}
def seqR (r : SR) (b : MS) : SR := match r with
  | .nx τ' => b τ' | .rt d τ' => .rt d τ' | .bk τ' => .bk τ' | .ct τ' => .ct τ' | .ex c τ' => .ex c τ' | .bad => .bad
theorem x_seq {a b : MS} : sSeq a b τ = seqR (a τ) b := rfl
theorem x_seq1 {b : MS} : seqR (.nx τ) b = b τ := rfl
theorem x_seq2 {b : MS} : seqR (.rt d τ) b = .rt d τ := rfl
theorem x_seq3 {b : MS} : seqR (.bk τ) b = .bk τ := rfl
theorem x_seq4 {b : MS} : seqR (.ct τ) b = .ct τ := rfl
theorem x_seq5 {b : MS} : seqR (.ex c τ) b = .ex c τ := rfl
theorem x_seq6 {b : MS} : seqR .bad b = .bad := rfl
theorem x_nil : sNil τ = .nx τ := rfl
def ifS (r : R Bool) (a b : MS) : SR := r.s fun x τ1 => if x = true then a τ1 else b τ1
theorem x_if {t : MT} {a b : MS} : sIf t a b τ = ifS (t τ) a b := rfl
theorem x_if1 {a b : MS} : ifS (.ok x τ) a b = if x = true then a τ else b τ := rfl
theorem x_if2 {a b : MS} : ifS (.ex c τ) a b = .ex c τ := rfl
theorem x_if3 {a b : MS} : ifS .bad a b = .bad := rfl
def retS (r : R D) : SR := r.s fun d τ1 => .rt d τ1
theorem x_ret {m : ME} : sRet m τ = retS (m τ) := rfl
theorem x_ret1 : retS (.ok d τ) = .rt d τ := rfl
theorem x_ret2 : retS (.ex c τ) = .ex c τ := rfl
theorem x_ret3 : retS .bad = .bad := rfl
theorem x_retN : sRetN τ = .rt .non τ := rfl
def asgG (o : Option Env) : SR := match o with
  | some τ2 => .nx τ2 | none => .bad
def asgS (r : R D) (g : D → Env → Option Env) : SR := r.s fun d τ1 => asgG (g d τ1)
theorem x_asg {m : ME} {g : D → Env → Option Env} : sAsg m g τ = asgS (m τ) g := rfl
theorem x_asg1 {g : D → Env → Option Env} : asgS (.ok d τ) g = asgG (g d τ) := rfl
theorem x_asg2 {g : D → Env → Option Env} : asgS (.ex c τ) g = .ex c τ := rfl
theorem x_asg3 {g : D → Env → Option Env} : asgS .bad g = .bad := rfl
theorem x_asg4 : asgG (some τ) = .nx τ := rfl
theorem x_asg5 : asgG none = .bad := rfl
theorem x_gN : gN i d τ = some (τ.set i (some d)) := rfl
def dropS (r : R D) : SR := r.s fun _ τ1 => .nx τ1
theorem x_drop {m : ME} : sDrop m τ = dropS (m τ) := rfl
theorem x_drop1 : dropS (.ok d τ) = .nx τ := rfl
theorem x_drop2 : dropS (.ex c τ) = .ex c τ := rfl
theorem x_bk : sBk τ = .bk τ := rfl
theorem x_ct : sCt τ = .ct τ := rfl
theorem x_raise : sRaise c τ = .ex c τ := rfl
def tZ' (o : Option D) (τ : Env) : R Bool := match o with
  | some (.bl b) => .ok b τ | _ => .bad
theorem x_tZ {m : MZ} : tZ m τ = tZ' (m τ) τ := rfl
theorem x_tZ1 : tZ' (some (.bl x)) τ = .ok x τ := rfl
theorem x_tZ2 : tZ' none τ = .bad := rfl
def tE' (r : R D) : R Bool := r.bind fun d τ1 => match d with
  | .bl b => .ok b τ1 | _ => .bad
theorem x_tE {m : ME} : tE m τ = tE' (m τ) := rfl
theorem x_tE1 : tE' (.ok (.bl x) τ) = .ok x τ := rfl
theorem x_tE2 : tE' (.ex c τ) = .ex c τ := rfl
theorem x_tE3 : tE' .bad = .bad := rfl
def andT (r : R Bool) (b : MT) : R Bool := r.bind fun x τ1 => if x = true then b τ1 else .ok false τ1
def orT (r : R Bool) (b : MT) : R Bool := r.bind fun x τ1 => if x = true then .ok true τ1 else b τ1
def notT (r : R Bool) : R Bool := r.bind fun x τ1 => .ok (!x) τ1
theorem x_tAnd {a b : MT} : tAnd a b τ = andT (a τ) b := rfl
theorem x_tAnd1 {b : MT} : andT (.ok x τ) b = if x = true then b τ else .ok false τ := rfl
theorem x_tAnd2 {b : MT} : andT (.ex c τ) b = .ex c τ := rfl
theorem x_tAnd3 {b : MT} : andT .bad b = .bad := rfl
theorem x_tOr {a b : MT} : tOr a b τ = orT (a τ) b := rfl
theorem x_tOr1 {b : MT} : orT (.ok x τ) b = if x = true then .ok true τ else b τ := rfl
theorem x_tOr2 {b : MT} : orT (.ex c τ) b = .ex c τ := rfl
theorem x_tOr3 {b : MT} : orT .bad b = .bad := rfl
theorem x_tNot {a : MT} : tNot a τ = notT (a τ) := rfl
theorem x_tNot1 : notT (.ok x τ) = .ok (!x) τ := rfl
theorem x_tNot2 : notT (.ex c τ) = .ex c τ := rfl
theorem x_tNot3 : notT .bad = .bad := rfl
theorem x_tTrue : tTrue τ = .ok true τ := rfl
def z2' (g : D → D → Option D) (a b : Option D) : Option D := a.bind fun a => b.bind fun b => g a b
theorem x_z2 {g : D → D → Option D} {m n : MZ} : z2 g m n τ = z2' g (m τ) (n τ) := rfl
theorem x_z21 {g : D → D → Option D} {a b : D} : z2' g (some a) (some b) = g a b := rfl
def z1' (g : D → Option D) (a : Option D) : Option D := a.bind g
theorem x_z1 {g : D → Option D} {m : MZ} : z1 g m τ = z1' g (m τ) := rfl
theorem x_z11 {g : D → Option D} {a : D} : z1' g (some a) = g a := rfl
def zCb (g : List D → Option D) (a : Option (List D)) : Option D := a.bind g
theorem x_zC {g : List D → Option D} {m : Env → Option (List D)} : zC' g m τ = zCb g (m τ) := rfl
theorem x_zC1 {g : List D → Option D} : zCb g (some ds) = g ds := rfl
def zaC (a : Option D) (b : Option (List D)) : Option (List D) := a.bind fun a => b.bind fun b => some (a :: b)
theorem x_za {m : MZ} {n : Env → Option (List D)} : zaCons m n τ = zaC (m τ) (n τ) := rfl
theorem x_za1 : zaC (some d) (some ds) = some (d :: ds) := rfl
theorem x_za0 : zaNil τ = some [] := rfl
theorem x_zV : zVar i τ = τ.getD i none := rfl
theorem x_zK : zC d τ = some d := rfl
def zCh (g g' : D → D → Option D) (a b : Option D) (c : MZ) (τ : Env) : Option D := a.bind fun x => b.bind fun y => (g x y).bind fun z => match z with
  | .bl true => (c τ).bind fun w => g' y w
  | .bl false => some (.bl false)
  | _ => none
def zCh2 (z : Option D) (g' : D → D → Option D) (y : D) (w : Option D) : Option D := z.bind fun z => match z with
  | .bl true => w.bind fun w => g' y w
  | .bl false => some (.bl false)
  | _ => none
theorem x_ch {g g' : D → D → Option D} {a b e : MZ} : zChain g g' a b e τ = zCh g g' (a τ) (b τ) e τ := rfl
theorem x_ch1 {g g' : D → D → Option D} {a b : D} {e : MZ} : zCh g g' (some a) (some b) e τ = zCh2 (g a b) g' b (e τ) := rfl
theorem x_ch2 {g' : D → D → Option D} {a b : D} : zCh2 (some (.bl x)) g' a (some b) = if x = true then g' a b else some (.bl false) := by cases x <;> rfl
def eZ' (o : Option D) (τ : Env) : R D := match o with
  | some d => if isFz d = true then .ok d τ else .bad
  | none => .bad
theorem x_eZ {m : MZ} : eZ m τ = eZ' (m τ) τ := rfl
theorem x_eZ1 : eZ' (some d) τ = if isFz d = true then .ok d τ else .bad := rfl
theorem x_eZ2 : eZ' none τ = .bad := rfl
def eV' (o : Option D) (i : Nat) (τ : Env) : R D := match o with
  | some d => if isFz d = true then .ok d τ else .ok (freeze d) (τ.set i (some (freeze d)))
  | none => .bad
theorem x_eV : eVar i τ = eV' (τ.getD i none) i τ := rfl
theorem x_eV1 : eV' (some d) i τ = if isFz d = true then .ok d τ else .ok (freeze d) (τ.set i (some (freeze d))) := rfl
def eM' (o : Option D) (i : Nat) (τ : Env) : R D := match o with
  | some d => .ok d (τ.set i none)
  | none => .bad
theorem x_eM : eMv i τ = eM' (τ.getD i none) i τ := rfl
theorem x_eM1 : eM' (some d) i τ = .ok d (τ.set i none) := rfl
theorem x_b1 {a : α} {k : α → Env → R β} : R.bind (.ok a τ) k = k a τ := rfl
theorem x_b2 {k : α → Env → R β} : R.bind (.ex c τ) k = .ex c τ := rfl
theorem x_b3 {k : α → Env → R β} : R.bind .bad k = .bad := rfl
theorem x_s1 {a : α} {k : α → Env → SR} : R.s (.ok a τ) k = k a τ := rfl
theorem x_s2 {k : α → Env → SR} : R.s (.ex c τ) k = .ex c τ := rfl
theorem x_s3 {k : α → Env → SR} : R.s .bad k = .bad := rfl
theorem x_oO : ofO (some d) τ = if isFz d = true then .ok d τ else .bad := rfl
theorem x_oO2 : ofO none τ = .bad := rfl
theorem x_e2 {g : D → D → Option D} {m n : ME} : e2 g m n τ = (m τ).bind fun a τ1 => (n τ1).bind fun b τ2 => ofO (g a b) τ2 := rfl
theorem x_e1 {g : D → Option D} {m : ME} : e1 g m τ = (m τ).bind fun a τ1 => ofO (g a) τ1 := rfl
theorem x_eC {g : List D → Option D} {m : MA} : eC g m τ = (m τ).bind fun a τ1 => ofO (g a) τ1 := rfl
theorem x_aN : aNil τ = .ok [] τ := rfl
theorem x_aC {m : ME} {n : MA} : aCons m n τ = (m τ).bind fun d τ1 => (n τ1).bind fun ds τ2 => .ok (d :: ds) τ2 := rfl
theorem x_tup {m : MA} : eTup m τ = (m τ).bind fun ds τ1 => if ds.length ≤ 1000000 then .ok (.tup (freezeL ds)) τ1 else .bad := rfl
theorem x_lst {m : MA} : eLst m τ = (m τ).bind fun ds τ1 => if ds.length ≤ 1000000 then .ok (.lst true ds) τ1 else .bad := rfl
theorem x_call {g : List D → CR} {m : MA} : eCall g m τ = (m τ).bind fun ds τ1 => ofC (g (freezeL ds)) τ1 := rfl
theorem x_oC1 : ofC (.ok d) τ = .ok d τ := rfl
theorem x_oC2 : ofC (.ex c) τ = .ex c τ := rfl
def c0 (r : CR) (τ : Env) : R D := match r with
  | .ok d => .ok d τ
  | _ => .bad
theorem x_call0 {g : List D → CR} : eCall0 g τ = c0 (g []) τ := rfl
theorem x_call01 : c0 (.ok d) τ = .ok d τ := rfl
def andE (r : R D) (b : ME) : R D := r.bind fun x τ1 => match x with
  | .bl true => b τ1 | .bl false => .ok (.bl false) τ1 | _ => .bad
def orE (r : R D) (b : ME) : R D := r.bind fun x τ1 => match x with
  | .bl false => b τ1 | .bl true => .ok (.bl true) τ1 | _ => .bad
def notE (r : R D) : R D := r.bind fun x τ1 => match x with
  | .bl b => .ok (.bl (!b)) τ1 | _ => .bad
def ifE (r : R Bool) (a b : ME) : R D := r.bind fun x τ1 => if x = true then a τ1 else b τ1
theorem x_eAnd {a b : ME} : eAnd a b τ = andE (a τ) b := rfl
theorem x_eAnd1 {b : ME} : andE (.ok (.bl x) τ) b = if x = true then b τ else .ok (.bl false) τ := by cases x <;> rfl
theorem x_eOr {a b : ME} : eOr a b τ = orE (a τ) b := rfl
theorem x_eOr1 {b : ME} : orE (.ok (.bl x) τ) b = if x = true then .ok (.bl true) τ else b τ := by cases x <;> rfl
theorem x_eNot {a : ME} : eNot a τ = notE (a τ) := rfl
theorem x_eNot1 : notE (.ok (.bl x) τ) = .ok (.bl (!x)) τ := rfl
theorem x_eIf {t : MT} {a b : ME} : eIf t a b τ = ifE (t τ) a b := rfl
theorem x_eIf1 {a b : ME} : ifE (.ok x τ) a b = if x = true then a τ else b τ := rfl
theorem x_fz_int (i : Int) : isFz (.int i) = true := rfl
theorem x_fr_int (i : Int) : freeze (.int i) = .int i := rfl
theorem x_fz_bl (i : Bool) : isFz (.bl i) = true := rfl
theorem x_fr_bl (i : Bool) : freeze (.bl i) = .bl i := rfl
theorem x_fz_str (i : Str) : isFz (.str i) = true := rfl
theorem x_fr_str (i : Str) : freeze (.str i) = .str i := rfl
theorem x_fz_ty (i : String) : isFz (.ty i) = true := rfl
theorem x_fr_ty (i : String) : freeze (.ty i) = .ty i := rfl
theorem x_fz_tup (i : List D) : isFz (.tup i) = true := rfl
theorem x_fr_tup (i : List D) : freeze (.tup i) = .tup i := rfl
theorem x_fz_cst (i : List D) : isFz (.cst i) = true := rfl
theorem x_fr_cst (i : List D) : freeze (.cst i) = .cst i := rfl
theorem x_fz_lst_false (i : List D) : isFz (.lst false i) = true := rfl
theorem x_fr_lst_false (i : List D) : freeze (.lst false i) = .lst false i := rfl
theorem x_fz_non : isFz .non = true := rfl
theorem x_fr_non : freeze .non = .non := rfl
theorem x_fz_lt : isFz (.lst true ds) = false := rfl
theorem x_fr_lt : freeze (.lst true ds) = .lst false (freezeL ds) := rfl
theorem x_fL0 : freezeL [] = [] := rfl
theorem x_fL1 : freezeL (d :: ds) = freeze d :: freezeL ds := rfl
def callR (r : SR) : CR := match r with
  | .nx _ => .ok .non | .rt d _ => .ok d | .ex c _ => .ex c | _ => .bad
theorem x_cF {n N : Nat} {b : MS} : callF n N b ds = if ds.length = n then callR (b (ds.map some ++ List.replicate (N - n) none)) else .bad := rfl
theorem x_cR1 : callR (.nx τ) = .ok .non := rfl
theorem x_cR2 : callR (.rt d τ) = .ok d := rfl
theorem x_cR3 : callR (.ex c τ) = .ex c := rfl
def iL' (d : D) (τ : Env) : R (List D) := match d with
  | .lst _ es => .ok es τ | _ => .bad
def iT' (d : D) (τ : Env) : R (List D) := match d with
  | .tup es => .ok es τ | _ => .bad
def iS' (d : D) (τ : Env) : R (List D) := match d with
  | .str z => .ok (strD z) τ | _ => .bad
def iR1' (d : List D) (τ : Env) : R (List D) := match d with
  | [.int j] => if -(2 ^ 62) ≤ j ∧ j < 2 ^ 62 then .ok (rangeD 0 j.toNat) τ else .bad
  | _ => .bad
def iR2' (d : List D) (τ : Env) : R (List D) := match d with
  | [.int i, .int j] => if -(2 ^ 62) ≤ i ∧ i < 2 ^ 62 ∧ -(2 ^ 62) ≤ j ∧ j < 2 ^ 62 then .ok (rangeD i (j - i).toNat) τ else .bad
  | _ => .bad
def iE' (d : List D) (τ : Env) : R (List D) := match d with
  | [.lst _ es] => .ok (enumD 0 es) τ | _ => .bad
def iV' (d : List D) (τ : Env) : R (List D) := match d with
  | [.lst _ es] => .ok es.reverse τ | _ => .bad
def iZ' (d : List D) (τ : Env) : R (List D) := match d with
  | [.lst _ es, .lst _ fs] => .ok (zipD es fs) τ | _ => .bad
theorem x_iL {m : ME} : iL m τ = (m τ).bind fun d τ1 => iL' (freeze d) τ1 := rfl
theorem x_iL1 {b : Bool} : iL' (.lst b ds) τ = .ok ds τ := rfl
theorem x_iT {m : ME} : iT m τ = (m τ).bind fun d τ1 => iT' d τ1 := rfl
theorem x_iT1 : iT' (.tup ds) τ = .ok ds τ := rfl
theorem x_iS {m : ME} : iS m τ = (m τ).bind fun d τ1 => iS' d τ1 := rfl
theorem x_iS1 {z : Str} : iS' (.str z) τ = .ok (strD z) τ := rfl
theorem x_iR1 {m : MA} : iR1 m τ = (m τ).bind fun d τ1 => iR1' d τ1 := rfl
theorem x_iR11 {j : Int} (h1 : -4611686018427387904 ≤ j) (h2 : j < 4611686018427387904) : iR1' [.int j] τ = .ok (rangeD 0 j.toNat) τ := if_pos ⟨h1, h2⟩
theorem x_iR2 {m : MA} : iR2 m τ = (m τ).bind fun d τ1 => iR2' d τ1 := rfl
theorem x_iR21 {i j : Int} (h1 : -4611686018427387904 ≤ i) (h2 : i < 4611686018427387904) (h3 : -4611686018427387904 ≤ j) (h4 : j < 4611686018427387904) : iR2' [.int i, .int j] τ = .ok (rangeD i (j - i).toNat) τ := if_pos ⟨h1, h2, h3, h4⟩
theorem x_iE {m : MA} : iE m τ = (m τ).bind fun d τ1 => iE' (freezeL d) τ1 := rfl
theorem x_iE1 {b : Bool} : iE' [.lst b ds] τ = .ok (enumD 0 ds) τ := rfl
theorem x_iV {m : MA} : iV m τ = (m τ).bind fun d τ1 => iV' (freezeL d) τ1 := rfl
theorem x_iV1 {b : Bool} : iV' [.lst b ds] τ = .ok ds.reverse τ := rfl
theorem x_iZ {m : MA} : iZ m τ = (m τ).bind fun d τ1 => iZ' (freezeL d) τ1 := rfl
theorem x_iZ1 {b b' : Bool} {es : List D} : iZ' [.lst b ds, .lst b' es] τ = .ok (zipD ds es) τ := rfl
def forB (r : SR) (k : Env → SR) : SR := match r with
  | .nx τ2 => k τ2 | .ct τ2 => k τ2 | .bk τ2 => .nx τ2 | .rt d τ2 => .rt d τ2 | .ex c τ2 => .ex c τ2 | .bad => .bad
def forG (o : Option Env) (b : MS) (k : Env → SR) : SR := match o with
  | none => .bad | some τ1 => forB (b τ1) k
theorem x_for {m : MA} {g : D → Env → Option Env} {b : MS} : sFor m g b τ = (m τ).s fun items τ1 => forL g b items τ1 := rfl
theorem x_fo0 {g : D → Env → Option Env} {b : MS} : forL g b [] τ = .nx τ := rfl
theorem x_fo1 {g : D → Env → Option Env} {b : MS} : forL g b (d :: ds) τ = forG (g d τ) b (forL g b ds) := rfl
theorem x_fo2 {b : MS} {k : Env → SR} : forG (some τ) b k = forB (b τ) k := rfl
theorem x_fo3 {k : Env → SR} : forB (.nx τ) k = k τ := rfl
theorem x_fo4 {k : Env → SR} : forB (.ct τ) k = k τ := rfl
theorem x_fo5 {k : Env → SR} : forB (.bk τ) k = .nx τ := rfl
theorem x_fo6 {k : Env → SR} : forB (.rt d τ) k = .rt d τ := rfl
theorem x_fo7 {k : Env → SR} : forB (.ex c τ) k = .ex c τ := rfl
def gT' (n : Nat) (g : List D → Env → Option Env) (es : List D) (τ : Env) : Option Env := if es.length = n then g es τ else none
theorem x_gT {n : Nat} {g : List D → Env → Option Env} : gT n g (.tup ds) τ = if ds.length = n then g ds τ else none := rfl
theorem x_gC {g : D → Env → Option Env} {h : List D → Env → Option Env} : gCons' g h (d :: ds) τ = (g d τ).bind (h ds) := rfl
theorem x_gC0 : gNil' [] τ = some τ := rfl
def tryB (sub : Str → Option Bool) (r : SR) (su : MS) : SR := match r with
  | .ex c τ' => (match sub c with | some true => noEx (su τ') | some false => .ex c τ' | none => .bad)
  | .nx τ' => .nx τ' | .rt d τ' => .rt d τ' | .bk τ' => .bk τ' | .ct τ' => .ct τ' | .bad => .bad
def tryC (o : Option Bool) (c : Str) (τ' : Env) (su : MS) : SR := match o with
  | some true => noEx (su τ') | some false => .ex c τ' | none => .bad
theorem x_try {sub : Str → Option Bool} {b su : MS} : sTry sub b su τ = tryB sub (b τ) su := rfl
theorem x_try1 {sub : Str → Option Bool} {su : MS} : tryB sub (.nx τ) su = .nx τ := rfl
theorem x_try2 {sub : Str → Option Bool} {su : MS} : tryB sub (.rt d τ) su = .rt d τ := rfl
theorem x_try3 {sub : Str → Option Bool} {su : MS} : tryB sub (.ex c τ) su = tryC (sub c) c τ su := rfl
theorem x_try4 {su : MS} : tryC (some true) c τ su = noEx (su τ) := rfl
theorem x_try5 {su : MS} : tryC (some false) c τ su = .ex c τ := rfl
theorem x_nx1 : noEx (.nx τ) = .nx τ := rfl
theorem x_nx2 : noEx (.rt d τ) = .rt d τ := rfl
theorem x_try6 {sub : Str → Option Bool} {su : MS} : tryB sub (.bk τ) su = .bk τ := rfl
theorem x_try7 {sub : Str → Option Bool} {su : MS} : tryB sub (.ct τ) su = .ct τ := rfl
theorem x_nx3 : noEx (.bk τ) = .bk τ := rfl
theorem x_nx4 : noEx (.ct τ) = .ct τ := rfl
def appS (o : Option D) (i : Nat) (d : D) (τ : Env) : SR := match o with
  | some (.lst true es) => if es.length < 1000000 then .nx (τ.set i (some (.lst true (es ++ [d])))) else .bad
  | _ => .bad
def appT (o : Option D) (i : Nat) (r : R D) : SR := match o with
  | some (.lst true _) => r.s fun d τ1 => appS (τ1.getD i none) i d τ1
  | _ => .bad
theorem x_app {m : ME} : sApp i m τ = appT (τ.getD i none) i (m τ) := rfl
theorem x_app1 {r : R D} : appT (some (.lst true ds)) i r = r.s fun d τ1 => appS (τ1.getD i none) i d τ1 := rfl
theorem x_app2 : appS (some (.lst true ds)) i d τ = if ds.length < 1000000 then .nx (τ.set i (some (.lst true (ds ++ [d])))) else .bad := rfl
def lcE (r : R (List D)) : R D := match r with
  | .ok acc τ2 => .ok (.lst true acc) τ2
  | _ => .bad
def lcG (o : Option Env) (own : List Nat) (g : D → Env → Option Env) (t : MT) (m : ME) (r acc : List D) : R (List D) := match o with
  | none => .bad
  | some τ1 => (t τ1).bind fun b τ2 => if b = true then (m τ2).bind fun e τ3 => if acc.length < 1000000 then lcL own g t m r (acc ++ [e]) (wipeE τ3 own) else .bad else lcL own g t m r acc (wipeE τ2 own)
theorem x_lc {own : List Nat} {it : MA} {g : D → Env → Option Env} {t : MT} {m : ME} : eLc own it g t m τ = (it τ).bind fun items τ1 => lcE (lcL own g t m items [] (wipeE τ1 own)) := rfl
theorem x_lcE : lcE (.ok ds τ) = .ok (.lst true ds) τ := rfl
theorem x_lc0 {own : List Nat} {g : D → Env → Option Env} {t : MT} {m : ME} : lcL own g t m [] ds τ = .ok ds τ := rfl
theorem x_lc1 {own : List Nat} {g : D → Env → Option Env} {t : MT} {m : ME} {r : List D} : lcL own g t m (d :: r) ds τ = lcG (g d τ) own g t m r ds := rfl
theorem x_lcG {own : List Nat} {g : D → Env → Option Env} {t : MT} {m : ME} {r : List D} : lcG (some τ) own g t m r ds = (t τ).bind fun b τ2 => if b = true then (m τ2).bind fun e τ3 => if ds.length < 1000000 then lcL own g t m r (ds ++ [e]) (wipeE τ3 own) else .bad else lcL own g t m r ds (wipeE τ2 own) := rfl
theorem x_w0 : wipeE τ [] = τ := rfl
theorem x_w1 {own : List Nat} : wipeE τ (i :: own) = (wipeE τ own).set i none := rfl
theorem vMinL4 (m : Bool) (a b c d : Int) : gMinL [.lst m [.int a, .int b, .int c, .int d]] = some (.int (minI a [b, c, d])) := rfl
theorem vMaxL4 (m : Bool) (a b c d : Int) : gMaxL [.lst m [.int a, .int b, .int c, .int d]] = some (.int (maxI a [b, c, d])) := rfl
theorem vAny {m : Bool} {ds : List D} {bs : List Bool} (h : boolsOf ds = some bs) : gAny [.lst m ds] = some (.bl (bs.any id)) := by
  show (match boolsOf ds with | some ns => some (D.bl (ns.any id)) | _ => none) = _
  rw [h]
theorem vAll3 (m : Bool) (a b c : Bool) : gAll [.lst m [.bl a, .bl b, .bl c]] = some (.bl ([a, b, c].all id)) := rfl
theorem vAny3 (m : Bool) (a b c : Bool) : gAny [.lst m [.bl a, .bl b, .bl c]] = some (.bl ([a, b, c].any id)) := rfl
theorem vAll4 (m : Bool) (a b c d : Bool) : gAll [.lst m [.bl a, .bl b, .bl c, .bl d]] = some (.bl ([a, b, c, d].all id)) := rfl
theorem vAny4 (m : Bool) (a b c d : Bool) : gAny [.lst m [.bl a, .bl b, .bl c, .bl d]] = some (.bl ([a, b, c, d].any id)) := rfl
def whC (r : R Bool) (b : MS) (k : Env → SR) : SR := match r with
  | .ok true τ1 => forB (b τ1) k | .ok false τ1 => .nx τ1 | .ex e τ1 => .ex e τ1 | .bad => .bad
theorem x_wh {t : MT} {b : MS} {n : Nat} : whileM t b (n + 1) τ = whC (t τ) b (whileM t b n) := by
  show (match t τ with | .ok true τ1 => _ | .ok false τ1 => _ | .ex e τ1 => _ | .bad => _) = _
  unfold whC forB
  cases t τ with
  | ok x τ1 => cases x with
    | true => cases b τ1 <;> rfl
    | false => rfl
  | ex e τ1 => rfl
  | bad => rfl
theorem x_wh1 {b : MS} {k : Env → SR} : whC (.ok true τ) b k = forB (b τ) k := rfl
theorem x_wh2 {b : MS} {k : Env → SR} : whC (.ok false τ) b k = .nx τ := rfl
theorem x_wh0 {f : Env → Nat} {t : MT} {b : MS} : sWhile f t b τ = whileM t b (f τ) τ := rfl
theorem x_abs {i : Int} : gAbs [.int i] = some (.int (if i < 0 then -i else i)) := rfl
theorem vI_ii {i : Int} : gIsi [.int i, .ty "int"] = some (.bl true) := rfl
theorem vI_ib {i : Int} : gIsi [.int i, .ty "bool"] = some (.bl false) := rfl
theorem vI_it {i : Int} : gIsi [.int i, .ty "tuple"] = some (.bl false) := rfl
theorem vI_il {i : Int} : gIsi [.int i, .ty "list"] = some (.bl false) := rfl
theorem vI_is {i : Int} : gIsi [.int i, .ty "str"] = some (.bl false) := rfl
theorem vI_bb {i : Bool} : gIsi [.bl x, .ty "bool"] = some (.bl true) := rfl
theorem vI_bi {i : Bool} : gIsi [.bl x, .ty "int"] = some (.bl true) := rfl
theorem vI_tt {i : Bool} : gIsi [.tup ds, .ty "tuple"] = some (.bl true) := rfl
theorem vI_tl {i : Bool} : gIsi [.tup ds, .ty "list"] = some (.bl false) := rfl
theorem vI_ti {i : Bool} : gIsi [.tup ds, .ty "int"] = some (.bl false) := rfl
theorem vI_ll {i : Bool} : gIsi [.lst i ds, .ty "list"] = some (.bl true) := rfl
theorem vI_lt {i : Bool} : gIsi [.lst i ds, .ty "tuple"] = some (.bl false) := rfl
theorem vI_ss {i : Str} : gIsi [.str i, .ty "str"] = some (.bl true) := rfl
theorem vEqB {i j : Bool} : gEq (.bl i) (.bl j) = some (.bl (i == j)) := rfl
theorem vNeB {i j : Bool} : gNe (.bl i) (.bl j) = some (.bl (!(i == j))) := rfl
def asB (i : Nat) (sub : Str → Option Bool) (r : SR) (su : Str → MS) : SR := match r with
  | .ex c τ' => tryAs i (sub c) c τ' su
  | .nx τ' => .nx τ' | .rt d τ' => .rt d τ' | .bk τ' => .bk τ' | .ct τ' => .ct τ' | .bad => .bad
theorem x_ta {sub : Str → Option Bool} {b : MS} {su : Str → MS} : sTryAs i sub b su τ = asB i sub (b τ) su := rfl
theorem x_ta1 {sub : Str → Option Bool} {su : Str → MS} : asB i sub (.ex c τ) su = tryAs i (sub c) c τ su := rfl
theorem x_ta2 {sub : Str → Option Bool} {su : Str → MS} : asB i sub (.nx τ) su = .nx τ := rfl
theorem x_ta3 {su : Str → MS} : tryAs i (some true) c τ su = if i < τ.length then endAs i (su c (τ.set i none)) else .bad := rfl
theorem x_ta4 : endAs i (.nx τ) = .nx (τ.set i none) := rfl
theorem x_ta5 : endAs i (.rt d τ) = .rt d τ := rfl
theorem x_is : eIs (some x) τ = .ok (.bl x) τ := rfl
theorem nc_0 : ((0 : Nat) : Int) = 0 := rfl
theorem nc_1 : ((1 : Nat) : Int) = 1 := rfl
theorem nc_2 : ((2 : Nat) : Int) = 2 := rfl
theorem nc_3 : ((3 : Nat) : Int) = 3 := rfl
theorem nc_4 : ((4 : Nat) : Int) = 4 := rfl
theorem nc_5 : ((5 : Nat) : Int) = 5 := rfl
theorem nc_6 : ((6 : Nat) : Int) = 6 := rfl
theorem nc_7 : ((7 : Nat) : Int) = 7 := rfl
theorem nc_8 : ((8 : Nat) : Int) = 8 := rfl
theorem nc_9 : ((9 : Nat) : Int) = 9 := rfl
theorem nc_10 : ((10 : Nat) : Int) = 10 := rfl
theorem nc_11 : ((11 : Nat) : Int) = 11 := rfl
def mxI (i j : Int) : Int := if j > i then j else i
def mnI (i j : Int) : Int := if j < i then j else i
theorem vMax2 {i j : Int} : gMax2 [.int i, .int j] = some (.int (mxI i j)) := rfl
theorem vMin2 {i j : Int} : gMin2 [.int i, .int j] = some (.int (mnI i j)) := rfl
theorem vIsN0 : gIsN .non .non = some (.bl true) := rfl
theorem vIsN1 {i : List D} : gIsN (.tup i) .non = some (.bl false) := rfl
theorem vNotN0 : gNotN .non .non = some (.bl false) := rfl
theorem vNotN1 {i : List D} : gNotN (.tup i) .non = some (.bl true) := rfl
theorem vIsN2 {i : Int} : gIsN (.int i) .non = some (.bl false) := rfl
theorem vNotN2 {i : Int} : gNotN (.int i) .non = some (.bl true) := rfl
def loD (ds : List D) (τ : Env) : R D := match ds with
  | [.lst _ es] => .ok (.lst true es) τ
  | [.tup es] => .ok (.lst true es) τ
  | _ => .bad
theorem x_lo {m : MA} : eLstOf m τ = (m τ).bind fun ds τ1 => loD (freezeL ds) τ1 := rfl
theorem x_lo1 {b : Bool} : loD [.lst b ds] τ = .ok (.lst true ds) τ := rfl
theorem x_lo2 : loD [.tup ds] τ = .ok (.lst true ds) τ := rfl
theorem vAll2 (m : Bool) (a b : Bool) : gAll [.lst m [.bl a, .bl b]] = some (.bl ([a, b].all id)) := rfl
theorem vAny2 (m : Bool) (a b : Bool) : gAny [.lst m [.bl a, .bl b]] = some (.bl ([a, b].any id)) := rfl
def slE (o : Option D) (τ : Env) : R D := match o with
  | some x => .ok x τ | none => .bad
theorem x_sl {f : D → Option Int → Option Int → Option D} {m : ME} {p r : Env → R (Option Int)} : eSlice f m p r τ = (m τ).bind fun d τ1 => slR (freeze d) p r f τ1 := rfl
theorem x_sl1 {f : D → Option Int → Option Int → Option D} {p r : Env → R (Option Int)} : slR d p r f τ = (p τ).bind fun lo τ1 => (r τ1).bind fun hi τ2 => slE (f d lo hi) τ2 := rfl
theorem x_sl2 : slE (some d) τ = .ok d τ := rfl
theorem x_pn : pNone τ = .ok none τ := rfl
def psI (d : D) (τ : Env) : R (Option Int) := match d with
  | .int i => .ok (some i) τ | _ => .bad
theorem x_ps {m : ME} : pSome m τ = (m τ).bind fun d τ1 => psI d τ1 := rfl
theorem x_ps1 {i : Int} : psI (.int i) τ = .ok (some i) τ := rfl
theorem x_cutL {b : Bool} {l h : Option Int} : cutLd (.lst b ds) l h = some (.lst true (cutL ds l h)) := rfl
theorem x_cutC {l h : Option Int} : cutLd (.cst ds) l h = some (.lst true (cutL ds l h)) := rfl
theorem okP_str {i : Str} (h : PySem.PyData.strOk i = true) : okP (.str i) = true := by
  show (true && (PySem.PyData.canLay0 (.str i) && decide (PySem.PyData.depth (.str i) ≤ 64))) = true
  rw [show PySem.PyData.canLay0 (.str i) = true from h]
  rfl
theorem vEqS {i j : Str} (h1 : PySem.PyData.strOk i = true) (h2 : PySem.PyData.strOk j = true) : gEq (.str i) (.str j) = some (.bl (i == j)) := if_pos ⟨okP_str h1, okP_str h2⟩
theorem vNeS {i j : Str} (h1 : PySem.PyData.strOk i = true) (h2 : PySem.PyData.strOk j = true) : gNe (.str i) (.str j) = some (.bl (!(i == j))) := if_pos ⟨okP_str h1, okP_str h2⟩
theorem x_fz_obj {ns : List Str} : isFz (.obj false c ns ds) = true := rfl
theorem x_fr_obj {ns : List Str} : freeze (.obj false c ns ds) = .obj false c ns ds := rfl
theorem x_make {m : MA} {ns : List Str} : eMake c ns m τ = (m τ).bind fun ds τ1 => if ds.length = ns.length then .ok (.obj false c ns (freezeL ds)) τ1 else .bad := rfl
def methC (o : Option (List D → CR)) (b : Bool) (d : D) (ma : MA) (τ1 : Env) : R D := match o with
  | some g => if b = true then .bad else (ma τ1).bind fun ds τ2 => ofC (g (d :: freezeL ds)) τ2
  | none => .bad
def methA (As : List (Str × (List D → CR))) (m : Str) (d : D) (ma : MA) (τ1 : Env) : R D := match d with
  | .obj false c ns xs => methC (As.lookup c) (ns.contains m) (.obj false c ns xs) ma τ1
  | _ => .bad
theorem x_meth {As : List (Str × (List D → CR))} {m : Str} {mo : ME} {ma : MA} : eMeth As m mo ma τ = (mo τ).bind fun d τ1 => methA As m d ma τ1 := by
  show (mo τ).bind _ = _
  congr 1
theorem x_meth2 {As : List (Str × (List D → CR))} {m : Str} {ns : List Str} {ma : MA} : methA As m (.obj false c ns ds) ma τ = methC (As.lookup c) (ns.contains m) (.obj false c ns ds) ma τ := rfl
theorem x_meth3 {g : List D → CR} {ma : MA} : methC (some g) false d ma τ = (ma τ).bind fun ds τ2 => ofC (g (d :: freezeL ds)) τ2 := rfl
def isOD (tbl : Str → Option Bool) (o : Option D) : Option D := o.bind fun d => match d with
  | .obj _ c _ _ => (tbl c).map D.bl
  | _ => none
theorem x_isO {tbl : Str → Option Bool} {m : MZ} : zIsO tbl m τ = isOD tbl (m τ) := rfl
theorem x_isO1 {tbl : Str → Option Bool} {b : Bool} {ns : List Str} : isOD tbl (some (.obj b c ns ds)) = (tbl c).map D.bl := rfl
theorem x_cat {a b : ME} : eCat a b τ = (a τ).bind fun x τ1 => (b τ1).bind fun y τ2 => slE' (catD (freeze x) (freeze y)) τ2 := rfl
theorem x_cat1 : slE' (some d) τ = .ok d τ := rfl
theorem vCat {xs ys : List D} (h : xs.length + ys.length ≤ 1000000) : catD (.lst false xs) (.lst false ys) = some (.lst true (xs ++ ys)) := if_pos h
def callZ (g : List D → CR) (o : Option (List D)) (τ : Env) : R D := match o with
  | some ds => lendR (g (freezeL ds)) τ
  | none => .bad
def methZC (o : Option (List D → CR)) (b : Bool) (d : D) (a : Option (List D)) (τ1 : Env) : R D := match o with
  | some g => if b = true then .bad else (match a with
    | some ds => lendR (g (d :: freezeL ds)) τ1
    | none => .bad)
  | none => .bad
def methZA (As : List (Str × (List D → CR))) (m : Str) (d : D) (a : Option (List D)) (τ1 : Env) : R D := match d with
  | .obj false c ns xs => methZC (As.lookup c) (ns.contains m) (.obj false c ns xs) a τ1
  | _ => .bad
theorem x_methZ {As : List (Str × (List D → CR))} {m : Str} {mo : ME} {ma : Env → Option (List D)} : eMethZ As m mo ma τ = (mo τ).bind fun d τ1 => methZA As m d (ma τ1) τ1 := by
  show (mo τ).bind _ = _
  congr 1
  all_goals (
    funext d τ1
    cases d with
    | obj b c ns xs =>
      cases b with
      | true => rfl
      | false =>
        unfold methZA methZC
        cases As.lookup c <;> rfl
    | _ => rfl)
def setIx1 (o : Option D) (k : Option D) (i : Nat) (d : D) (τ1 : Env) : SR := match o with
  | some (.lst true es) => (match k with
    | some (.int k) => (match setD es k d with
      | some es' => .nx (τ1.set i (some (.lst true es')))
      | none => .bad)
    | _ => .bad)
  | _ => .bad
def setIx2 (o : Option (List D)) (i : Nat) (τ1 : Env) : SR := match o with
  | some es' => .nx (τ1.set i (some (.lst true es')))
  | none => .bad
theorem x_methZ2 {As : List (Str × (List D → CR))} {m : Str} {ns : List Str} {a : Option (List D)} : methZA As m (.obj false c ns ds) a τ = methZC (As.lookup c) (ns.contains m) (.obj false c ns ds) a τ := rfl
theorem x_methZ3 {g : List D → CR} : methZC (some g) false d (some ds) τ = lendR (g (d :: freezeL ds)) τ := rfl
theorem x_callZ {g : List D → CR} {m : Env → Option (List D)} : eCallZ g m τ = callZ g (m τ) τ := rfl
theorem x_callZ1 {g : List D → CR} : callZ g (some ds) τ = lendR (g (freezeL ds)) τ := rfl
theorem x_lend1 : lendR (.ok d) τ = if clean d = true then .ok d τ else .bad := rfl
theorem x_lend2 : lendR (.ex c) τ = .ex c τ := rfl
theorem x_cl_int {i : Int} : clean (.int i) = true := rfl
theorem x_cl_bl {i : Bool} : clean (.bl i) = true := rfl
theorem x_cl_str {i : Str} : clean (.str i) = true := rfl
theorem x_cl_non : clean .non = true := rfl
theorem x_cl_tup : clean (.tup ds) = cleanL ds := rfl
theorem x_cl0 : cleanL [] = true := rfl
theorem x_cl1 : cleanL (d :: ds) = (clean d && cleanL ds) := rfl
theorem x_cl_lst : clean (.lst true ds) = cleanL ds := Bool.true_and _
theorem x_setIx {mi : MZ} {m : ME} : sSetIx i mi m τ = (m τ).s fun d τ1 => setIx1 (τ1.getD i none) (mi τ1) i d τ1 := rfl
theorem x_setIx1 {k : Int} : setIx1 (some (.lst true ds)) (some (.int k)) i d τ = setIx2 (setD ds k d) i τ := rfl
def lcB (o : Option D) (own : List Nat) (i : Nat) (g : D → Env → Option Env) (t : MT) (m : ME) (τ : Env) : R D := match o with
  | some (.lst true es) => if es.all isFz = true then (match lcL own g t m es [] (wipeE (τ.set i none) own) with
    | .ok acc τ2 => .ok (.lst true acc) (τ2.set i (some (.lst true es)))
    | _ => .bad) else .bad
  | _ => .bad
theorem x_setIx2 : setIx2 (some ds) i τ = .nx (τ.set i (some (.lst true ds))) := rfl
def callI3 (r : CR2) (is : List Nat) (τ2 : Env) : R D := match r with
  | .ok d outs => if outs.length = is.length then .ok d (putD is outs τ2) else .bad
  | .bad => .bad
def callI2 (o : Option (List D × Env)) (g : List D → CR2) (is : List Nat) (ds : List D) : R D := match o with
  | none => .bad
  | some (ios, τ2) => callI3 (g (ios ++ freezeL ds)) is τ2
def takeC (o : Option D) (i : Nat) (is : List Nat) (τ : Env) : Option (List D × Env) := match o with
  | none => none
  | some d => (takeD is (τ.set i none)).map fun p => (d :: p.1, p.2)
def callRI (k : Nat) (r : SR) : CR2 := match r with
  | .nx τ => outR k .non τ
  | .rt d τ => outR k d τ
  | _ => .bad
def outR1 (o : Option (List D)) (d : D) : CR2 := match o with
  | some os => .ok d os
  | none => .bad
def parS (i j : Nat) (r : R (List D)) : SR := r.s fun ds τ1 => match ds with
  | [x, y] => .nx ((τ1.set i (some x)).set j (some y))
  | _ => .bad
def sortR2 (o : Option (List Int)) (τ1 : Env) : R D := match o with
  | some ns => .ok (.lst true ((sortI ns).map D.int)) τ1
  | none => .bad
def sortR (ds : List D) (τ1 : Env) : R D := match ds with
  | [.lst _ es] => sortR2 (intsOf es) τ1
  | _ => .bad
theorem x_callI {g : List D → CR2} {is : List Nat} {m : MA} : eCallI g is m τ = if is.all (fun i => (τ.getD i none).isSome) = true then (m τ).bind fun ds τ1 => callI g is ds τ1 else .bad := rfl
theorem x_callI1 {g : List D → CR2} {is : List Nat} : callI g is ds τ = callI2 (takeD is τ) g is ds := by unfold callI; cases takeD is τ <;> rfl
theorem x_callI2 {g : List D → CR2} {is : List Nat} {ios : List D} : callI2 (some (ios, τ)) g is ds = callI3 (g (ios ++ freezeL ds)) is τ := rfl
theorem x_callI3 {is : List Nat} : callI3 (.ok d ds) is τ = if ds.length = is.length then .ok d (putD is ds τ) else .bad := rfl
theorem x_take0 : takeD [] τ = some ([], τ) := rfl
theorem x_take1 {is : List Nat} : takeD (i :: is) τ = takeC (τ.getD i none) i is τ := by show (match τ.getD i none with | none => none | some d => _) = _; cases τ.getD i none <;> rfl
theorem x_take2 {is : List Nat} : takeC (some d) i is τ = (takeD is (τ.set i none)).map fun p => (d :: p.1, p.2) := rfl
theorem x_put0 : putD [] [] τ = τ := rfl
theorem x_put1 {is : List Nat} : putD (i :: is) (d :: ds) τ = putD is ds (τ.set i (some d)) := rfl
theorem x_cFI {n N k : Nat} {b : MS} : callFI n N k b ds = if ds.length = n then callRI k (b (ds.map some ++ List.replicate (N - n) none)) else .bad := rfl
theorem x_cRI1 {k : Nat} : callRI k (.nx τ) = outR k .non τ := rfl
theorem x_cRI2 {k : Nat} : callRI k (.rt d τ) = outR k d τ := rfl
theorem x_outR {k : Nat} : outR k d τ = outR1 (outsE k τ) d := by unfold outR outR1; cases outsE k τ <;> rfl
theorem x_outR1 : outR1 (some ds) d = .ok d ds := rfl
theorem x_out1 {a : D} : outsE 1 (some a :: τ) = some [a] := rfl
theorem x_out2 {a b : D} : outsE 2 (some a :: some b :: τ) = some [a, b] := rfl
theorem x_par {j : Nat} {m : MA} : sPar i j m τ = parS i j (m τ) := rfl
theorem x_par1 {j : Nat} {a b : D} : parS i j (.ok [a, b] τ) = .nx ((τ.set i (some a)).set j (some b)) := rfl
theorem x_sort {m : MA} : eSorted m τ = (m τ).bind fun ds τ1 => sortR (freezeL ds) τ1 := rfl
theorem x_sort1 {b : Bool} : sortR [.lst b ds] τ = sortR2 (intsOf ds) τ := rfl
theorem x_sort2 {ns : List Int} : sortR2 (some ns) τ = .ok (.lst true ((sortI ns).map D.int)) τ := rfl
theorem x_io2 {a b : Int} : intsOf [.int a, .int b] = some [a, b] := rfl
theorem x_io4 {a b c d : Int} : intsOf [.int a, .int b, .int c, .int d] = some [a, b, c, d] := rfl
theorem vIsB {a b : Bool} : gIsB (.bl a) (.bl b) = some (.bl (decide (a = b))) := rfl
def lrD (d : D) (τ : Env) : R D := match d with
  | .lst _ es => .ok (.lst true es.reverse) τ
  | _ => .bad
def clrT (o : Option D) (i : Nat) (τ : Env) : SR := match o with
  | some (.lst true _) => .nx (τ.set i (some (.lst true [])))
  | _ => .bad
def clrE (o : Option D) (i j : Nat) (τ : Env) : SR := match o with
  | some (.lst true es) => if es.all isOwnL = true ∧ j < τ.length then .nx ((τ.set j none).set i (some (.lst true (clrL es.length es)))) else .bad
  | _ => .bad
def popS (o : Option (List D)) (i : Nat) (τ : Env) : SR := match o with
  | some es' => .nx (τ.set i (some (.lst true es')))
  | none => .bad
def popT (o k : Option D) (i : Nat) (τ : Env) : SR := match o with
  | some (.lst true es) => (match k with
    | some (.int k) => popS (popD es k) i τ
    | _ => .bad)
  | _ => .bad
def insS (o : Option D) (k : Int) (i : Nat) (d : D) (τ1 : Env) : SR := match o with
  | some (.lst true es) => if es.length < 1000000 ∧ 0 ≤ k ∧ k < 2 ^ 63 then .nx (τ1.set i (some (.lst true (es.take k.toNat ++ [d] ++ es.drop k.toNat)))) else .bad
  | _ => .bad
def insT (o k : Option D) (i : Nat) (r : R D) : SR := match o, k with
  | some (.lst true _), some (.int k) => r.s fun d τ1 => insS (τ1.getD i none) k i d τ1
  | _, _ => .bad
theorem x_pop {mi : MZ} : sPopAt i mi τ = popT (τ.getD i none) (mi τ) i τ := by
  unfold sPopAt popT popS
  rfl
theorem x_lr {m : ME} : eLstRev m τ = (m τ).bind fun d τ1 => lrD (freeze d) τ1 := rfl
theorem x_lr1 {b : Bool} : lrD (.lst b ds) τ = .ok (.lst true ds.reverse) τ := rfl
theorem x_clr : sClear i τ = clrT (τ.getD i none) i τ := rfl
theorem x_clr1 : clrT (some (.lst true ds)) i τ = .nx (τ.set i (some (.lst true []))) := rfl
theorem x_clrE {j : Nat} : sClearEach i j τ = clrE (τ.getD i none) i j τ := rfl
theorem x_clrE1 {j : Nat} : clrE (some (.lst true ds)) i j τ = if ds.all isOwnL = true ∧ j < τ.length then .nx ((τ.set j none).set i (some (.lst true (clrL ds.length ds)))) else .bad := rfl
theorem x_pop1 {k : Int} : popT (some (.lst true ds)) (some (.int k)) i τ = popS (popD ds k) i τ := rfl
theorem x_pop2 : popS (some ds) i τ = .nx (τ.set i (some (.lst true ds))) := rfl
theorem x_ins {mi : MZ} {m : ME} : sIns i mi m τ = insT (τ.getD i none) (mi τ) i (m τ) := rfl
theorem x_ins1 {k : Int} {r : R D} : insT (some (.lst true ds)) (some (.int k)) i r = r.s fun d τ1 => insS (τ1.getD i none) k i d τ1 := rfl
theorem x_ins2 {k : Int} : insS (some (.lst true ds)) k i d τ = if ds.length < 1000000 ∧ 0 ≤ k ∧ k < 2 ^ 63 then .nx (τ.set i (some (.lst true (ds.take k.toNat ++ [d] ++ ds.drop k.toNat)))) else .bad := rfl
theorem x_sk {p r : Env → R (Option Int)} : eSliceK i p r τ = skD (τ.getD i none) i p r τ := rfl
theorem x_sk1 {p r : Env → R (Option Int)} : skD (some (.lst true ds)) i p r τ = if ds.all isFz = true then skP (p (τ.set i none)) ds i r else .bad := rfl
theorem x_sk2 {o : Option Int} {r : Env → R (Option Int)} : skP (.ok o τ) ds i r = skQ (r τ) ds o i := rfl
theorem x_sk3 {o o' : Option Int} : skQ (.ok o' τ) ds o i = .ok (.lst true (cutL ds o o')) (τ.set i (some (.lst true ds))) := rfl
theorem x_ck {g : List D → CR} {m : MA} : eCallK g i m τ = if (τ.getD i none).isSome = true then (m τ).bind fun es τ1 => ckR g (τ1.getD i none) es τ1 else .bad := rfl
theorem x_ck1 {g : List D → CR} : ckR g (some d) ds τ = lendR (g (freezeL [d] ++ freezeL ds)) τ := rfl
theorem x_lk : eLstK i τ = lkR (τ.getD i none) τ := rfl
theorem x_lk1 : lkR (some (.lst true ds)) τ = if ds.all isFz = true then .ok (.lst true ds) τ else .bad := rfl
theorem x_iK {m : ME} : iK m τ = (m τ).bind fun d τ1 => iK' d τ1 := rfl
theorem x_iK1 : iK' (.cst ds) τ = .ok ds τ := rfl
theorem x_forB {g : D → Env → Option Env} {b : MS} : sForB i g b τ = fbD (τ.getD i none) i g b τ := rfl
theorem x_fbD {g : D → Env → Option Env} {b : MS} : fbD (some (.lst true ds)) i g b τ = if ds.all isFz = true then fbR i ds (forL g b ds (τ.set i none)) else .bad := rfl
theorem x_fbR : fbR i ds (.nx τ) = .nx (τ.set i (some (.lst true ds))) := rfl
theorem x_fbR2 : fbR i ds (.rt d τ) = .rt d τ := rfl
theorem x_fzE {m : ME} : eFz m τ = (m τ).bind fun d τ1 => .ok (freeze d) τ1 := rfl
theorem vInt1 {j : Int} : gInt [.int j] = some (.int j) := rfl
theorem vInt2 {b : Bool} : gInt [.bl b] = some (.int (if b then 1 else 0)) := rfl
def tupR (l : List D) (τ : Env) : R D := match l with
  | [.lst _ es] => .ok (.tup es) τ
  | [.tup es] => .ok (.tup es) τ
  | _ => .bad
theorem x_tupO {m : MA} : eTupOf m τ = (m τ).bind fun ds τ1 => tupR (freezeL ds) τ1 := rfl
theorem x_tupO1 {b : Bool} : tupR [.lst b ds] τ = .ok (.tup ds) τ := rfl
theorem x_tupO2 : tupR [.tup ds] τ = .ok (.tup ds) τ := rfl
def zRi (o : Option D) (g : D → D → Option D) (a : D) : Option D := o.bind fun b => g a b
theorem x_e2Z {g : D → D → Option D} {m : ME} {n : MZ} : e2Z g m n τ = (m τ).bind fun a τ1 => ofO (zRi (n τ1) g a) τ1 := rfl
theorem x_e2Z1 {g : D → D → Option D} {a b : D} : zRi (some b) g a = g a b := rfl
theorem x_appF {cc f : Str} {m : ME} : sAppF i cc f m τ = appF1 i cc f (τ.getD i none) (m (τ.set i none)) := rfl
theorem x_appF1 {cc f : Str} {ns : List Str} {r : R D} : appF1 i cc f (some (.obj true cc ns ds)) r = appFL i cc f ns ds (lookD f ns ds) r := if_pos rfl
theorem x_appF2 {cc f : Str} {ns : List Str} {r : R D} {es : List D} : appFL i cc f ns ds (some (.lst true es)) r = if es.length < 1000000 then appF2 i cc f ns ds es r else .bad := rfl
theorem x_appF3 {cc f : Str} {ns : List Str} {es : List D} : appF2 i cc f ns ds es (.ok d τ) = .nx (τ.set i (some (.obj true cc ns (putL f (.lst true (es ++ [d])) ns ds)))) := rfl
theorem x_setF {cc f : Str} {mi : MZ} {m : ME} : sSetIxF i cc f mi m τ = (m τ).s fun d τ1 => setF1 i cc f (τ1.getD i none) (mi τ1) d τ1 := rfl
theorem x_setF1 {cc f : Str} {ns : List Str} {k : Option D} : setF1 i cc f (some (.obj true cc ns ds)) k d τ = setFL i cc f ns ds (lookD f ns ds) k d τ := if_pos rfl
theorem x_setF2 {cc f : Str} {ns : List Str} {k : Int} {es : List D} : setFL i cc f ns ds (some (.lst true es)) (some (.int k)) d τ = setF3 i cc f ns ds (setD es k d) τ := rfl
theorem x_setF3 {cc f : Str} {ns : List Str} {es : List D} : setF3 i cc f ns ds (some es) τ = .nx (τ.set i (some (.obj true cc ns (putL f (.lst true es) ns ds)))) := rfl
theorem x_setFd {cc f : Str} {m : ME} : sSetFld i cc f m τ = (m τ).s fun d τ1 => fldS i cc f (τ1.getD i none) d τ1 := rfl
theorem x_setFd1 {cc f : Str} {ns : List Str} (h : ns.length < 999) : fldS i cc f (some (.obj true cc ns ds)) d τ = .nx (τ.set i (some (putFld f d cc ns ds))) := by
  unfold fldS; exact if_pos ⟨rfl, h⟩
theorem x_makeI {cc : Str} {g : List D → CR2} {m : MA} : eMakeI cc g m τ = (m τ).bind fun ds τ1 => mkI (g (.obj true cc [] [] :: freezeL ds)) τ1 := rfl
theorem x_makeI1 : mkI (.ok .non [d]) τ = .ok d τ := rfl
theorem x_methI {cc m : Str} {g : List D → CR2} {ma : MA} : eMethI cc m g i ma τ = if methOk cc m (τ.getD i none) = true then (ma τ).bind fun ds τ1 => methI1 (τ1.getD i none) g i ds τ1 else .bad := rfl
theorem x_methI1 {g : List D → CR2} : methI1 (some d) g i ds τ = methI2 (g (d :: freezeL ds)) i (τ.set i none) := rfl
theorem x_methI2 {o : D} : methI2 (.ok d [o]) i τ = .ok d (τ.set i (some o)) := rfl
theorem x_mz0 {As : List (Str × (List D → CR))} {m : Str} : eMethZ0 As m i τ = mz0A As m (τ.getD i none) τ := rfl
theorem x_mz01 {As : List (Str × (List D → CR))} {m cc : Str} {b : Bool} {ns : List Str} : mz0A As m (some (.obj b cc ns ds)) τ = mz0B (As.lookup cc) m b cc ns ds τ := rfl
theorem x_mz02 {g : List D → CR} {m cc : Str} {b : Bool} {ns : List Str} : mz0B (some g) m b cc ns ds τ = if ns.contains m = true then .bad else lendR0 (g (freezeL [.obj b cc ns ds])) τ := rfl
theorem x_mz03 : lendR0 (.ok d) τ = if clean d = true then .ok d τ else .bad := rfl
theorem x_m0 {As : List (Str × (List D → CR))} {m : Str} : eMeth0 As m i τ = m0A As m (τ.getD i none) i τ := rfl
theorem x_m01 {As : List (Str × (List D → CR))} {m cc : Str} {b : Bool} {ns : List Str} : m0A As m (some (.obj b cc ns ds)) i τ = m0B (As.lookup cc) m b cc ns ds i τ := rfl
theorem x_m02 {g : List D → CR} {m cc : Str} {b : Bool} {ns : List Str} : m0B (some g) m b cc ns ds i τ = if ns.contains m = true then .bad else m0C (g [freeze (.obj b cc ns ds)]) i τ := rfl
theorem x_m03 : m0C (.ok d) i τ = .ok d (τ.set i none) := rfl
theorem x_fz_objt {cc : Str} {ns : List Str} : isFz (.obj true cc ns ds) = false := rfl
theorem x_fr_objt {cc : Str} {ns : List Str} : freeze (.obj true cc ns ds) = .obj false cc ns (freezeL ds) := rfl
def tLr (o : Option D) (τ : Env) : R Bool := match o with
  | some (.lst _ es) => .ok (!es.isEmpty) τ
  | _ => .bad
end
end Bn

/-! Plain helpers: data equal to itself, loops, comprehensions, ranges. -/
namespace Bn
open PySem L2
/-- data, nested at most n deep -/
structure Ok (n : Nat) (d : D) : Prop where
  h : hasP d = true
  l : (toP d).canLay0 = true
  d : (toP d).depth ≤ n
theorem ok_int {n : Nat} (i : Int) : Ok n (.int i) := ⟨rfl, by simp [toP, PyData.canLay0], by simp [toP, PyData.depth]⟩
theorem ok_all {n : Nat} : ∀ {ds : List D}, (∀ d ∈ ds, Ok n d) → hasPs ds = true ∧ PyData.canLayAll0 (toPs ds) = true ∧ PyData.depthAll (toPs ds) ≤ n
  | [], _ => ⟨rfl, rfl, Nat.zero_le _⟩
  | d :: ds, h => by
    obtain ⟨h1, h2, h3⟩ := h d List.mem_cons_self
    obtain ⟨k1, k2, k3⟩ := ok_all fun e he => h e (List.mem_cons_of_mem _ he)
    refine ⟨?_, ?_, ?_⟩
    · show (hasP d && hasPs ds) = true
      rw [h1, k1]; rfl
    · show PyData.canLayAll0 (toP d :: toPs ds) = true
      simp [PyData.canLayAll0, h2, k2]
    · show PyData.depthAll (toP d :: toPs ds) ≤ n
      simp only [PyData.depthAll]
      omega
theorem ok_tup {n : Nat} {ds : List D} (h : ∀ d ∈ ds, Ok n d) : Ok (n + 1) (.tup ds) := by
  obtain ⟨h1, h2, h3⟩ := ok_all h
  exact ⟨h1, by simpa [toP, PyData.canLay0] using h2, by simp only [toP, PyData.depth]; omega⟩
theorem ok_lst {n : Nat} {b : Bool} {ds : List D} (h : ∀ d ∈ ds, Ok n d) : Ok (n + 1) (.lst b ds) := by
  obtain ⟨h1, h2, h3⟩ := ok_all h
  exact ⟨h1, by simpa [toP, PyData.canLay0] using h2, by simp only [toP, PyData.depth]; omega⟩
theorem Ok.p {n : Nat} {d : D} (h : Ok n d) (hn : n ≤ 64 := by decide) : okP d = true := by
  unfold okP SeqAt.shaped
  rw [h.h, h.l, decide_eq_true (Nat.le_trans h.d hn)]; rfl
theorem eqP_self {n : Nat} {a b : D} (h : Ok n a) (e : toP b = toP a) : eqP a b = true := by
  unfold eqP
  rw [e]
  exact SeqAt.eqv_refl _ h.l
theorem vEqX {n : Nat} {a b : D} (h : Ok n a) (k : Ok n b) (e : toP b = toP a) (hn : n ≤ 64 := by decide) : gEq a b = some (.bl true) := by
  unfold gEq
  rw [if_pos ⟨h.p hn, k.p hn⟩, eqP_self h e]
theorem vNeX {n : Nat} {a b : D} (h : Ok n a) (k : Ok n b) (e : toP b = toP a) (hn : n ≤ 64 := by decide) : gNe a b = some (.bl false) := by
  unfold gNe
  rw [if_pos ⟨h.p hn, k.p hn⟩, eqP_self h e]; rfl
/-! ### walks over lists -/
section
variable {g : D → Env → Option Env} {b : MS} {own : List Nat} {t : MT} {m : ME}
/-- two lists, item by item -/
def All2 (P : D → D → Prop) : List D → List D → Prop
  | [], [] => True
  | x :: xs, y :: ys => P x y ∧ All2 P xs ys
  | _, _ => False
theorem All2.length {P : D → D → Prop} : ∀ {xs ys : List D}, All2 P xs ys → xs.length = ys.length
  | [], [], _ => rfl
  | _ :: _, [], h => h.elim
  | [], _ :: _, h => h.elim
  | _ :: _, _ :: _, h => by rw [List.length_cons, List.length_cons, h.2.length]
theorem All2.right {P : D → D → Prop} {Q : D → Prop} (hP : ∀ d e, P d e → Q e) : ∀ {items es : List D}, All2 P items es → ∀ e ∈ es, Q e
  | [], [], _ => by simp
  | _ :: _, [], h => h.elim
  | [], _ :: _, h => h.elim
  | d :: _, e :: es, ⟨h1, h2⟩ => by
    intro x hx
    rcases List.mem_cons.mp hx with rfl | hx
    · exact hP _ _ h1
    · exact All2.right hP h2 x hx
end
theorem fz_map {α : Type} {f : α → D} (h : ∀ p, freeze (f p) = f p) : ∀ xs : List α, freezeL (xs.map f) = xs.map f
  | [] => rfl
  | x :: xs => by rw [List.map_cons, x_fL1, h, fz_map h xs]
/-! ### ranges -/
section
variable {ma : MA} {g : D → Env → Option Env} {b : MS} {own : List Nat} {t : MT} {m : ME} {τ τ1 τ2 : Env}
theorem x_range {N : Int} {n : Nat} (h : ma τ = .ok [.int N] τ1) (h1 : 0 ≤ N) (h2 : N < 1000000) (e : N.toNat = n) : iR1 ma τ = .ok (rangeD 0 n) τ1 := by
  rw [x_iR1, h, x_b1, x_iR11 (by omega) (by omega), e]
theorem x_for_range {N : Int} {n : Nat} (h : ma τ = .ok [.int N] τ1) (h1 : 0 ≤ N) (h2 : N < 1000000) (e : N.toNat = n) : sFor (iR1 ma) g b τ = forL g b (rangeD 0 n) τ1 := by
  rw [x_for, x_range h h1 h2 e, x_s1]
theorem x_asg_ok {gg : D → Env → Option Env} {d : D} (h : m τ = .ok d τ1) (k : gg d τ1 = some τ2) : sAsg m gg τ = .nx τ2 := by
  rw [x_asg, h, x_asg1, k, x_asg4]
theorem x_seq_ok {a c : MS} {r : SR} (h : a τ = .nx τ1) (k : c τ1 = r) : sSeq a c τ = r := by
  rw [x_seq, h, x_seq1, k]
end
theorem vIxL_of {b : Bool} {xs : List D} {i : Int} {d : D} {k : Nat} (e : i = (k : Nat)) (h : xs[k]? = some d) : gIx (.lst b xs) (.int i) = some d := by
  subst e; rw [vIxL, h]
theorem cF_ok {n N : Nat} {b : MS} {ds : List D} {τ0 : Env} {r : SR} (hl : ds.length = n) (hτ : ds.map some ++ List.replicate (N - n) none = τ0) (h : b τ0 = r) : callF n N b ds = callR r := by
  rw [x_cF, if_pos hl, hτ, h]
end Bn

/-! The head by facts: what the top has written is asked of one part of the heap, at one run. -/
namespace Bn
open PySem PySem.Spec PyProof.Rows L2
open HandSHeadRun (frNat frNat_eq)
/-! ### a part of the heap, forced -/
section
variable {α : Type}
def frNs : List Nat → (List Nat → α) → α
  | [], k => k []
  | a :: r, k => frNat a fun a => frNs r fun l => k (a :: l)
theorem frNs_eq : ∀ (l : List Nat) (k : List Nat → α), frNs l k = k l
  | [], _ => rfl
  | a :: r, k => by show frNat a _ = _; rw [frNat_eq, frNs_eq r]
def frV (v : Value) (k : Value → α) : α := match v with
  | .ref a => frNat a fun a => k (.ref a)
  | .str s t => k (.str s t)
  | .builtin i => k (.builtin i)
  | .type i => k (.type i)
  | .int i t => k (.int i t)
  | .none => k .none
  | .bool b => k (.bool b)
  | v => k v
theorem frV_eq (v : Value) (k : Value → α) : frV v k = k v := by
  cases v with
  | ref a => exact frNat_eq a (fun a => k (.ref a))
  | _ => rfl
def frK (v : Value) (k : Value → α) : α := match v with
  | .str s t => frNs s.cps.toList fun l => k (.str ⟨l.toArray⟩ t)
  | v => k v
theorem frK_eq (v : Value) (k : Value → α) : frK v k = k v := by
  cases v with
  | str s t => show frNs _ _ = _; rw [frNs_eq]
  | _ => rfl
def frEs : List DictEntry → (List DictEntry → α) → α
  | [], k => k []
  | e :: r, k => frK e.key fun x => frV e.val fun v => frEs r fun l => k (⟨e.hash, x, v⟩ :: l)
theorem frEs_eq : ∀ (l : List DictEntry) (k : List DictEntry → α), frEs l k = k l
  | [], _ => rfl
  | e :: r, k => by show frK _ _ = _; rw [frK_eq, frV_eq, frEs_eq r]
def frVs : List Value → (List Value → α) → α
  | [], k => k []
  | v :: r, k => frV v fun v => frVs r fun l => k (v :: l)
theorem frVs_eq : ∀ (l : List Value) (k : List Value → α), frVs l k = k l
  | [], _ => rfl
  | v :: r, k => by show frV _ _ = _; rw [frV_eq, frVs_eq r]
def frO (o : Obj) (k : Obj → α) : α := match o with
  | ⟨c, d, .dict es n, sl⟩ => frEs es.toList fun l => k ⟨c, d, .dict l.toArray n, sl⟩
  | ⟨c, d, .func ⟨a1, a2, a3, a4, a5, a6, a7, a8, a9, a10, a11, a12, a13, a14, a15⟩, sl⟩ => k ⟨c, d, .func ⟨a1, a2, a3, a4, a5, a6, a7, a8, a9, a10, a11, a12, a13, a14, a15⟩, sl⟩
  | ⟨c, d, .cls ⟨a1, a2, a3, a4, a5, a6, a7, a8, a9, a10, a11⟩, sl⟩ => frVs a3 fun a3 => frNat a4 fun a4 => k ⟨c, d, .cls ⟨a1, a2, a3, a4, a5, a6, a7, a8, a9, a10, a11⟩, sl⟩
  | ⟨c, d, .fields vs, sl⟩ => k ⟨c, d, .fields vs, sl⟩
  | ⟨c, d, .seq vs n, sl⟩ => frVs vs.toList fun l => k ⟨c, d, .seq l.toArray n, sl⟩
  | ⟨c, d, dt, sl⟩ => k ⟨c, d, dt, sl⟩
theorem frO_eq (o : Obj) (k : Obj → α) : frO o k = k o := by
  obtain ⟨c, d, dt, sl⟩ := o
  cases dt with
  | dict es n => show frEs _ _ = _; rw [frEs_eq]
  | func fd => rfl
  | cls cd => show frVs _ _ = _; rw [frVs_eq, frNat_eq]
  | seq vs n => show frVs _ _ = _; rw [frVs_eq]
  | _ => rfl
def frF (g : Addr → Option Obj) : List Addr → (PySem.W.Frag → α) → α
  | [], k => k []
  | a :: r, k => match g a with
    | none => frF g r k
    | some o => frO o fun o => frF g r fun K => k ((a, o) :: K)
theorem frF_eq (g : Addr → Option Obj) : ∀ (as : List Addr) (k : PySem.W.Frag → α), frF g as k = k (He.frG g as)
  | [], _ => rfl
  | a :: r, k => by
    unfold frF He.frG
    cases e : g a with
    | none =>
      rw [List.filterMap_cons, e]
      exact frF_eq g r k
    | some o =>
      rw [List.filterMap_cons, e]
      show frO o _ = _
      rw [frO_eq, frF_eq g r]
      rfl
end
def valsO (o : Obj) : List Addr := match o.data with
  | .dict es _ => es.toList.flatMap fun e => He.refV e.val
  | _ => []
def nextO (o : Obj) : List Addr := match o.data with
  | .func fd => He.refV fd.code
  | .cls cd => [cd.ns]
  | _ => []
def atO (g : Addr → Option Obj) (f : Obj → List Addr) (a : Addr) : List Addr := match g a with
  | some o => f o
  | none => []
/-- the module's names, what they hold, their namespaces' objects, their codes -/
def fragC {α : Type} (g : Addr → Option Obj) (k : PySem.W.Frag → α) : α :=
  frNs (atO g valsO mainGlobals) fun l1 => frNs (l1.flatMap (atO g nextO)) fun l2 => frNs (l2.flatMap (atO g valsO)) fun l3 => frNs (l3.flatMap (atO g nextO)) fun l4 =>
    frF g (mainGlobals :: (l1 ++ (l2 ++ (l3 ++ l4)))) k
def asC (g : Addr → Option Obj) : List Addr :=
  let l1 := atO g valsO mainGlobals
  let l2 := l1.flatMap (atO g nextO)
  let l3 := l2.flatMap (atO g valsO)
  mainGlobals :: (l1 ++ (l2 ++ (l3 ++ l3.flatMap (atO g nextO))))
theorem fragC_eq {α : Type} (g : Addr → Option Obj) (k : PySem.W.Frag → α) : fragC g k = k (He.frG g (asC g)) := by
  unfold fragC
  rw [frNs_eq, frNs_eq, frNs_eq, frNs_eq, frF_eq]
  rfl
/-- the facts, the functions, one Bool more -/
def obB (fa : List He.Fa) (fn : List He.FnD) (ex : PySem.W.Frag → Bool) (K : PySem.W.Frag) : He.Al × Bool := (He.obsE fa fn K, ex K)
def obBG (fa : List He.Fa) (fn : List He.FnD) (ex : PySem.W.Frag → Bool) (g : Addr → Option Obj) : He.Al × Bool := obB fa fn ex (He.frG g (asC g))
def hkB (fa : List He.Fa) (fn : List He.FnD) (ex : PySem.W.Frag → Bool) : PySem.W.Hook where
  α := He.Al × Bool
  obs := fun s => obBG fa fn ex s.heap.get?
  val := fun _ => (He.valE fn, true)
  says := fun _ h => ∃ K : PySem.W.Frag, K.In h ∧ He.SaysE fa fn K ∧ ex K = true
  of := fun _ _ e => ⟨_, He.frG_in, congrArg Prod.fst e, congrArg Prod.snd e⟩
  keeps := fun _ _ _ ⟨K, a, b, c⟩ k => ⟨K, PySem.W.Frag.In.keeps a k, b, c⟩
theorem obBG_eq {fa : List He.Fa} {fn : List He.FnD} {ex : PySem.W.Frag → Bool} {g : Addr → Option Obj} {s : Shared} (h : ∀ a, g a = s.heap.get? a) : obBG fa fn ex g = (hkB fa fn ex).obs s := by
  have e : g = s.heap.get? := funext h
  rw [e]; rfl
/-- one question of that part, asked by itself -/
def obQ {β : Type} (q : PySem.W.Frag → β) (s : PySem.W.SharedT) : β := fragC (HandSHeadRun.getT s) q
def RunQ {β : Type} (r : PySem.W.OpenRow) (M : Nat) (w : World) (q : PySem.W.SharedT → β) (v : β) : Prop :=
  ∀ os : OsState, (HandSHeadRun.endF (HandSHeadRun.stepQ (HandSHeadRun.denQ HandSHeadRun.tabQ) r.prog w) M r.prog w os).map q = some v
theorem RunQ.and {β γ : Type} {r : PySem.W.OpenRow} {M : Nat} {w : World} {q1 : PySem.W.SharedT → β} {v1 : β} {q2 : PySem.W.SharedT → γ} {v2 : γ} (h1 : RunQ r M w q1 v1) (h2 : RunQ r M w q2 v2) : RunQ r M w (fun s => (q1 s, q2 s)) (v1, v2) := by
  intro os
  have e1 := h1 os
  have e2 := h2 os
  revert e1 e2
  generalize HandSHeadRun.endF _ M r.prog w os = o
  intro e1 e2
  cases o with
  | none => cases e1
  | some s =>
    have f1 : q1 s = v1 := Option.some.inj e1
    have f2 : q2 s = v2 := Option.some.inj e2
    show some (q1 s, q2 s) = _
    rw [f1, f2]
theorem RunQ.to {β γ : Type} {r : PySem.W.OpenRow} {M : Nat} {w : World} {q : PySem.W.SharedT → β} {v : β} {p : PySem.W.SharedT → γ} {u : γ} (h : RunQ r M w q v) (t : ∀ s, q s = v → p s = u) : RunQ r M w p u := by
  intro os
  have e := h os
  revert e
  generalize HandSHeadRun.endF _ M r.prog w os = o
  intro e
  cases o with
  | none => cases e
  | some s =>
    have f : q s = v := Option.some.inj e
    show some (p s) = _
    rw [t s f]
/-- the parts of the Hook's word, one after the other -/
def qFa (fa : List He.Fa) (K : PySem.W.Frag) : Bool := fa.all fun f => f.ok K
def qCd (fn : List He.FnD) (K : PySem.W.Frag) : Bool := fn.all fun d => (He.Fa.code d.at_ d.qual).ok K
def qFn (fn : List He.FnD) (K : PySem.W.Frag) : List He.FnV := fn.map fun d => He.fnObs K d.at_
/-- a law's end over such a head -/
theorem walkB {l : PySem.W.OpenLaw} {n k : Nat} {q : Program} {loose : List Str} {XP : (Str → Option Value) → Heap → Prop} {YP : World → Heap → Prop} {d : DefRec} {CX : World → CXT} {x : Str}
    (m1 : l.most = some n) (m2 : n ≤ sizeLine) (df : d.params.defaults = []) (ro : Room k callerA)
    (all : ∀ (w : World) (mg : Str → Option Value) (fa : Addr) (h : Heap), YP w h → h.Ns mainGlobals mg → mg d.name = some (.ref fa) →
      ∃ (K : PySem.W.Frag) (fd : FuncData) (sp : Sp), K.In h ∧ (∀ (s : Shared) (u : Value), BindsTo s fd ⟨[u], []⟩ [(x, u)]) ∧
        (∀ (H : Hp) (a : Addr) (ns : List Int), ns.length ≤ n → Only H → SqL K H a (ns.map V.int) → sp [.ref a] H (fun v _ => v = .bl true) fun _ _ _ => False) ∧
        ∀ base : Heap, K.In base → base.Ns mainGlobals mg → FnOk l.prog w K mg base (CX w) k fa fd [x] sp)
    (no : ∀ (w : World) (H : Hp) (s : Shared) (e : Value) (s' : Shared), CX w [] H s (fun _ _ _ => False) e s' → False) : PySem.W.WalkO q loose XP YP l.row.toRowW d [] (fun f vs => PySem.call f vs) := by
  refine Att.attach_call m1 df fun w s₀ s₁ mg mb fa o pm cd doc a vs ns G Y h1 h2 h3 h4 h5 h6 hlen h7 => ?_
  obtain ⟨K, fd, sp, KX, b, c, F⟩ := all w mg fa _ Y G.T.g h4
  refine law_call KX G.T.g G.T.b G.T.builtins G.T.nolimit h7 h5 h6 (Nat.le_trans hlen m2) ro F b (fun H u v => c H a ns hlen u v) fun H e s' => no w H s₁ e s'
theorem eqO' {a b : Option (Option Value)} (h : He.eqO a b = true) : a = b := He.eqO_ok h
end Bn

/-! More of texts: split, the number that figures write. -/
namespace Bn
open PySem PySem.Spec PyProof.Rows L2
section
variable {X : Cx} {B : Bx} {W : WX}
def splitR (a b : Str) (τ : Env) : R D := if b.length ≠ 0 ∧ a.length ≤ 1000000 then .ok (.lst true ((Txt.split a b).map D.str)) τ else .bad
def eSplit (a b : ME) : ME := fun τ => (a τ).bind fun x τ1 => match x with
  | .str z => (b τ1).bind fun y τ2 => (match y with
    | .str w => splitR z w τ2
    | _ => .bad)
  | _ => .bad
end
/-- int(text) -/
def gIntS : List D → Option D
  | [.str a] => if a.length ≤ 640 then (intText? a).map D.int else none
  | _ => none
end Bn

/-! Plain functions of typed values, and what it says that a reading does what such a function tells. -/
namespace Bn
open PySem PySem.Spec PyProof.Rows L2

inductive N (α : Type) where
  | ok (a : α) | ex (c : Str) | bad
inductive NS (σ κ ρ : Type) where
  | nx (s : σ) | bk (l : κ) | ct (l : κ) | rt (r : ρ) | ex (c : Str) | bad
def N.bind {α β : Type} : N α → (α → N β) → N β
  | .ok a, k => k a
  | .ex c, _ => .ex c
  | .bad, _ => .bad
def N.s {α σ κ ρ : Type} : N α → (α → NS σ κ ρ) → NS σ κ ρ
  | .ok a, k => k a
  | .ex c, _ => .ex c
  | .bad, _ => .bad
def NS.s {σ σ' κ ρ : Type} : NS σ κ ρ → (σ → NS σ' κ ρ) → NS σ' κ ρ
  | .nx a, k => k a
  | .bk l, _ => .bk l
  | .ct l, _ => .ct l
  | .rt r, _ => .rt r
  | .ex c, _ => .ex c
  | .bad, _ => .bad
/-- what a def's body tells: nothing told is bad -/
def NS.f {σ κ ρ : Type} : NS σ κ ρ → N ρ
  | .rt r => .ok r
  | .ex c => .ex c
  | _ => .bad
/-- the same where the end of the body tells z -/
def NS.fz {σ κ ρ : Type} (z : ρ) : NS σ κ ρ → N ρ
  | .rt r => .ok r
  | .nx _ => .ok z
  | .ex c => .ex c
  | _ => .bad
def N.o {α : Type} : Option α → N α
  | some a => .ok a
  | none => .bad
theorem N.bind_ok {α β : Type} (a : α) (k : α → N β) : (N.ok a).bind k = k a := of_eq_true (eq_self (k a))
theorem N.bind_assoc {α β γ : Type} (v : N α) (f : α → N β) (g : β → N γ) : (v.bind f).bind g = v.bind fun a => (f a).bind g := by cases v <;> rfl
theorem N.s_ok {α σ κ ρ : Type} (a : α) (k : α → NS σ κ ρ) : (N.ok a).s k = k a := of_eq_true (eq_self (k a))
theorem N.s_ex {α σ κ ρ : Type} (c : Str) (k : α → NS σ κ ρ) : (N.ex c).s k = .ex c := rfl
theorem NS.s_nx {σ σ' κ ρ : Type} (a : σ) (k : σ → NS σ' κ ρ) : (NS.nx a).s k = k a := rfl
theorem NS.s_ex {σ σ' κ ρ : Type} (c : Str) (k : σ → NS σ' κ ρ) : (NS.ex c).s k = .ex c := rfl
/-! ### how typed values stand in trees -/
abbrev EP (α : Type) := α → D → Prop
abbrev EL (α : Type) := α → List D → Prop
inductive Al {α : Type} (e : EP α) : List α → List D → Prop
  | nil : Al e [] []
  | cons {x : α} {d : D} {xs : List α} {ds : List D} : e x d → Al e xs ds → Al e (x :: xs) (d :: ds)
def eI : EP Int := fun i d => d = .int i
def eB : EP Bool := fun b d => d = .bl b
def eS : EP Str := fun s d => d = .str s
def eN : EP Unit := fun _ d => d = .non
def eCn : EP (List Int) := fun ns d => d = .cst (ns.map D.int)
def eD : EP D := fun x d => d = x ∧ isFz x = true
def eLi (m : Bool) {α : Type} (e : EP α) : EP (List α) := fun xs d => ∃ ds, d = .lst m ds ∧ Al e xs ds
def eLq {α : Type} (e e' : EP α) : EP (List α) := fun xs d => eLi true e xs d ∨ eLi false e' xs d
def eTu {α : Type} (es : EL α) : EP α := fun x d => ∃ ds, d = .tup ds ∧ es x ds
def eLt (m : Bool) {α : Type} (es : EL α) : EP α := fun x d => ∃ ds, d = .lst m ds ∧ es x ds
def eO {α : Type} (e : EP α) : EP (Option α) := fun o d => match o with
  | none => d = .non
  | some x => e x d
def eCons {α β : Type} (e : EP α) (es : EL β) : EL (α × β) := fun p ds => ∃ d r, ds = d :: r ∧ e p.1 d ∧ es p.2 r
def eOne {α : Type} (e : EP α) : EL α := fun x ds => ∃ d, ds = [d] ∧ e x d
def eNil : EL Unit := fun _ ds => ds = []

def Zf {α : Type} (e : EP α) : Prop := ∀ x d, e x d → isFz d = true
def Fz {α : Type} (e e' : EP α) : Prop := ∀ x d, e x d → e' x (freeze d)
def FzL {α : Type} (e e' : EL α) : Prop := ∀ x ds, e x ds → e' x (freezeL ds)
theorem freeze_of {d : D} (h : isFz d = true) : freeze d = d := by
  cases d with
  | lst m xs => cases m with
    | true => cases h
    | false => rfl
  | obj m c ns xs => cases m with
    | true => cases h
    | false => rfl
  | dct m ks xs => cases m with
    | true => cases h
    | false => rfl
  | tpo xs => cases h
  | _ => rfl
theorem zf_I : Zf eI := fun _ _ h => by rw [show _ = _ from h]; rfl
theorem zf_B : Zf eB := fun _ _ h => by rw [show _ = _ from h]; rfl
theorem zf_C : Zf eCn := fun _ _ h => by rw [show _ = _ from h]; rfl
theorem zf_L {α : Type} {e : EP α} : Zf (eLi false e) := fun _ _ ⟨_, h, _⟩ => by rw [h]; rfl
theorem zf_T {α : Type} {e : EL α} : Zf (eTu e) := fun _ _ ⟨_, h, _⟩ => by rw [h]; rfl
theorem fz_z {α : Type} {e : EP α} (h : Zf e) : Fz e e := fun x d q => by rw [freeze_of (h x d q)]; exact q
theorem Al.fz {α : Type} {e e' : EP α} (h : Fz e e') : ∀ {xs : List α} {ds : List D}, Al e xs ds → Al e' xs (freezeL ds)
  | _, _, .nil => .nil
  | _, _, .cons a b => .cons (h _ _ a) (b.fz h)
theorem fz_L {α : Type} {e e' : EP α} (h : Fz e e') : Fz (eLi true e) (eLi false e') := fun _ _ ⟨ds, q, a⟩ => by rw [q]; exact ⟨_, rfl, a.fz h⟩
theorem fzl_cons {α β : Type} {e e' : EP α} {es es' : EL β} (h : Fz e e') (k : FzL es es') : FzL (eCons e es) (eCons e' es') := fun p ds ⟨d, r, q, a, b⟩ => by
  rw [q]; exact ⟨_, _, rfl, h _ _ a, k _ _ b⟩
theorem fzl_one {α : Type} {e e' : EP α} (h : Fz e e') : FzL (eOne e) (eOne e') := fun p ds ⟨d, q, a⟩ => by
  rw [q]; exact ⟨_, rfl, h _ _ a⟩
theorem Al.length {α : Type} {e : EP α} : ∀ {xs : List α} {ds : List D}, Al e xs ds → ds.length = xs.length
  | _, _, .nil => rfl
  | _, _, .cons _ b => congrArg (· + 1) b.length
theorem Al.append {α : Type} {e : EP α} : ∀ {xs ys : List α} {ds es : List D}, Al e xs ds → Al e ys es → Al e (xs ++ ys) (ds ++ es)
  | _, _, _, _, .nil, k => k
  | _, _, _, _, .cons a b, k => .cons a (b.append k)
theorem Al.imp {α : Type} {e e' : EP α} (h : ∀ x d, e x d → e' x d) : ∀ {xs : List α} {ds : List D}, Al e xs ds → Al e' xs ds
  | _, _, .nil => .nil
  | _, _, .cons a b => .cons (h _ _ a) (b.imp h)
theorem Al.drop {α : Type} {e : EP α} : ∀ (n : Nat) {xs : List α} {ds : List D}, Al e xs ds → Al e (xs.drop n) (ds.drop n)
  | 0, _, _, h => h
  | _ + 1, _, _, .nil => .nil
  | n + 1, _, _, .cons _ b => b.drop n
theorem Al.take {α : Type} {e : EP α} : ∀ (n : Nat) {xs : List α} {ds : List D}, Al e xs ds → Al e (xs.take n) (ds.take n)
  | 0, _, _, h => .nil
  | _ + 1, _, _, .nil => .nil
  | n + 1, _, _, .cons a b => .cons a (b.take n)
theorem Al.get {α : Type} {e : EP α} : ∀ (n : Nat) {xs : List α} {ds : List D} {x : α}, Al e xs ds → xs[n]? = some x → ∃ d, ds[n]? = some d ∧ e x d
  | _, _, _, _, .nil, h => by simp at h
  | 0, _, _, _, .cons a b, h => by simp at h; subst h; exact ⟨_, rfl, a⟩
  | n + 1, _, _, _, .cons a b, h => by simpa using b.get n (by simpa using h)
theorem al_ints (ns : List Int) : Al eI ns (ns.map D.int) := by
  induction ns with
  | nil => exact .nil
  | cons n ns ih => exact .cons rfl ih
theorem Al.ints {ns : List Int} {ds : List D} (h : Al eI ns ds) : ds = ns.map D.int := by
  induction h with
  | nil => rfl
  | cons a b ih => rw [show _ = _ from a, ih]; rfl
theorem Al.bools {ns : List Bool} {ds : List D} (h : Al eB ns ds) : ds = ns.map D.bl := by
  induction h with
  | nil => rfl
  | cons a b ih => rw [show _ = _ from a, ih]; rfl
theorem al_map {α β : Type} {e : EP α} {e' : EP β} (f : α → β) (g : D → D) (h : ∀ x d, e x d → e' (f x) (g d)) : ∀ {xs : List α} {ds : List D}, Al e xs ds → Al e' (xs.map f) (ds.map g)
  | _, _, .nil => .nil
  | _, _, .cons a b => .cons (h _ _ a) (al_map f g h b)

/-! ### slots -/
inductive Slot : Type 1
  | any
  | val {α : Type} (e : EP α) (x : α)
def Slot.h : Slot → Option D → Prop
  | .any, _ => True
  | .val e x, o => ∃ d, o = some d ∧ e x d
def Is : List Slot → Env → Prop
  | [], τ => τ = []
  | p :: ps, τ => ∃ o r, τ = o :: r ∧ p.h o ∧ Is ps r
def nth : List Slot → Nat → Slot
  | [], _ => .any
  | p :: _, 0 => p
  | _ :: ps, n + 1 => nth ps n
def put : List Slot → Nat → Slot → List Slot
  | [], _, _ => []
  | _ :: ps, 0, q => q :: ps
  | p :: ps, n + 1, q => p :: put ps n q
theorem Is.get {α : Type} {e : EP α} {x : α} : ∀ {G : List Slot} {τ : Env} {i : Nat}, Is G τ → nth G i = .val e x → ∃ d, τ.getD i none = some d ∧ e x d
  | [], _, _, _, q => by cases q
  | p :: ps, _, 0, ⟨o, r, h, h1, _⟩, q => by
    have q : p = .val e x := q
    subst q; subst h
    exact h1
  | p :: ps, _, n + 1, ⟨o, r, h, _, h2⟩, q => by
    subst h
    exact Is.get (i := n) h2 q
theorem Is.put {q : Slot} {o : Option D} (hq : q.h o) : ∀ {G : List Slot} {τ : Env} (i : Nat), Is G τ → Is (put G i q) (τ.set i o)
  | [], _, _, h => by rw [show _ = [] from h]; exact rfl
  | p :: ps, _, 0, ⟨_, r, h, h1, h2⟩ => by subst h; exact ⟨o, r, rfl, hq, h2⟩
  | p :: ps, _, n + 1, ⟨_, r, h, h1, h2⟩ => by subst h; exact ⟨_, _, rfl, h1, Is.put hq n h2⟩
theorem Is.len : ∀ {G : List Slot} {τ : Env}, Is G τ → τ.length = G.length
  | [], _, h => by rw [show _ = [] from h]; rfl
  | p :: ps, _, ⟨_, r, h, h1, h2⟩ => by subst h; exact congrArg (· + 1) h2.len
def Ent (G G' : List Slot) : Prop := ∀ τ, Is G τ → Is G' τ
def Se (p q : Slot) : Prop := ∀ o, p.h o → q.h o
theorem se_id {p : Slot} : Se p p := fun _ h => h
theorem se_any {p : Slot} : Se p .any := fun _ _ => trivial
theorem ent_id {G : List Slot} : Ent G G := fun _ h => h
theorem ent_nil : Ent [] [] := fun _ h => h
theorem ent_cons {p q : Slot} {G G' : List Slot} (h : Se p q) (k : Ent G G') : Ent (p :: G) (q :: G') := fun _ ⟨o, r, a, b, c⟩ => ⟨o, r, a, h _ b, k _ c⟩
def se_lo {α : Type} {e e' : EP α} : ∀ x d, eLi true e x d → eLq e e' x d := fun _ _ h => .inl h
def se_lf {α : Type} {e e' : EP α} : ∀ x d, eLi false e' x d → eLq e e' x d := fun _ _ h => .inr h

/-! ### readings -/
def Sat {α β : Type} (r : R β) (v : N α) (P : α → β → Env → Prop) (X : Env → Prop) : Prop := match v with
  | .ok a => ∃ d τ', r = .ok d τ' ∧ P a d τ'
  | .ex c => ∃ τ', r = .ex c τ' ∧ X τ'
  | .bad => True
theorem Sat.bind {α β α' β' : Type} {r : R β} {v : N α} {P : α → β → Env → Prop} {X : Env → Prop} {k : β → Env → R β'} {w : α → N α'} {Q : α' → β' → Env → Prop} (h : Sat r v P X) (q : ∀ a d τ, P a d τ → Sat (k d τ) (w a) Q X) : Sat (r.bind k) (v.bind w) Q X := by
  cases v with
  | ok a =>
    obtain ⟨d, τ', e, p⟩ := h
    rw [e]
    exact q a d τ' p
  | ex c =>
    obtain ⟨τ', e, p⟩ := h
    rw [e]
    exact ⟨τ', rfl, p⟩
  | bad => trivial
/-- an expression that never raises -/
def Noex {α : Type} (v : N α) : Prop := ∀ c, v ≠ .ex c
theorem noex_ok {α : Type} {a : α} : Noex (N.ok a) := fun c h => by cases h
theorem noex_bind {α β : Type} {v : N α} {k : α → N β} (h : Noex v) (q : ∀ a, Noex (k a)) : Noex (v.bind k) := fun c z => by
  cases v with
  | ok a => exact q a c z
  | ex c' => exact h c' rfl
  | bad => cases z
def VZ {α : Type} (m : MZ) (G : List Slot) (v : N α) (e : EP α) : Prop := Noex v ∧ ∀ τ, Is G τ → ∀ a, v = .ok a → ∃ d, m τ = some d ∧ e a d
def VE {α : Type} (m : ME) (G : List Slot) (v : N α) (e : EP α) (G' : List Slot) (X : Env → Prop) : Prop := ∀ τ, Is G τ → Sat (m τ) v (fun a d τ' => e a d ∧ Is G' τ') X
def VT (m : MT) (G : List Slot) (v : N Bool) (G' : List Slot) (X : Env → Prop) : Prop := ∀ τ, Is G τ → Sat (m τ) v (fun a d τ' => a = d ∧ Is G' τ') X
def VA {α : Type} (m : MA) (G : List Slot) (v : N α) (e : EL α) (G' : List Slot) (X : Env → Prop) : Prop := ∀ τ, Is G τ → Sat (m τ) v (fun a d τ' => e a d ∧ Is G' τ') X
def VP (m : Env → R (Option Int)) (G : List Slot) (v : N (Option Int)) (G' : List Slot) (X : Env → Prop) : Prop := ∀ τ, Is G τ → Sat (m τ) v (fun a d τ' => a = d ∧ Is G' τ') X
section
variable {α β γ : Type} {G G1 G2 G' : List Slot} {X : Env → Prop}
theorem N.bind_of {v : N α} {k : α → N β} {b : β} (h : v.bind k = .ok b) : ∃ a, v = .ok a ∧ k a = .ok b := by
  cases v with
  | ok a => exact ⟨a, rfl, h⟩
  | ex c => cases h
  | bad => cases h
theorem vz_var {i : Nat} {e : EP α} {x : α} (h : nth G i = .val e x := by rfl) : VZ (zVar i) G (.ok x) e := ⟨noex_ok, fun τ s a q => by
  cases q; exact s.get h⟩
theorem vz_c {d : D} {e : EP α} {x : α} (h : e x d) : VZ (zC d) G (.ok x) e := ⟨noex_ok, fun τ s a q => by
  cases q; exact ⟨d, rfl, h⟩⟩
theorem vz_i {i : Int} : VZ (zC (.int i)) G (.ok i) eI := vz_c rfl
theorem vz_b {b : Bool} : VZ (zC (.bl b)) G (.ok b) eB := vz_c rfl
def Op (g : D → D → Option D) (f : α → β → N γ) (e1 : EP α) (e2 : EP β) (e3 : EP γ) : Prop := ∀ a b d1 d2 c, e1 a d1 → e2 b d2 → f a b = .ok c → ∃ d, g d1 d2 = some d ∧ e3 c d
def Un (g : D → Option D) (f : α → N γ) (e1 : EP α) (e3 : EP γ) : Prop := ∀ a d1 c, e1 a d1 → f a = .ok c → ∃ d, g d1 = some d ∧ e3 c d
def Cl (g : List D → Option D) (f : α → N γ) (e1 : EL α) (e3 : EP γ) : Prop := ∀ a d1 c, e1 a d1 → f a = .ok c → ∃ d, g d1 = some d ∧ e3 c d
def Nx2 (f : α → β → N γ) : Prop := ∀ a b c, f a b ≠ .ex c
def Nx1 (f : α → N γ) : Prop := ∀ a c, f a ≠ .ex c
theorem vz_2 {m n : MZ} {g : D → D → Option D} {f : α → β → N γ} {e1 : EP α} {e2 : EP β} {e3 : EP γ} {v1 : N α} {v2 : N β} {v : N γ} (h1 : VZ m G v1 e1) (h2 : VZ n G v2 e2) (o : Op g f e1 e2 e3) (nx : Nx2 f) (hv : v = v1.bind fun a => v2.bind fun b => f a b := by first | with_reducible rfl | simp only [N.bind_ok, N.bind_assoc] | rfl) : VZ (Bn.z2 g m n) G v e3 := ⟨by rw [hv]; exact noex_bind h1.1 fun a => noex_bind h2.1 fun b => nx a b, fun τ s c q => by
  rw [hv] at q
  obtain ⟨a, ea, q⟩ := N.bind_of q
  obtain ⟨b, eb, q⟩ := N.bind_of q
  obtain ⟨d1, k1, k2⟩ := h1.2 τ s a ea
  obtain ⟨d2, l1, l2⟩ := h2.2 τ s b eb
  obtain ⟨d, p1, p2⟩ := o a b d1 d2 c k2 l2 q
  exact ⟨d, by unfold Bn.z2; rw [k1, l1]; exact p1, p2⟩⟩
def VZA (m : Env → Option (List D)) (G : List Slot) (v : N α) (e : EL α) : Prop := Noex v ∧ ∀ τ, Is G τ → ∀ a, v = .ok a → ∃ d, m τ = some d ∧ e a d
theorem vza_one {m : MZ} {e : EP α} {v : N α} (h : VZ m G v e) : VZA (zaCons m zaNil) G v (eOne e) := ⟨h.1, fun τ s a q => by
  obtain ⟨d, k1, k2⟩ := h.2 τ s a q
  exact ⟨[d], by unfold zaCons; rw [k1]; rfl, d, rfl, k2⟩⟩
theorem vz_call {m : Env → Option (List D)} {g : List D → Option D} {f : α → N γ} {ea : EL α} {e3 : EP γ} {v1 : N α} {v : N γ} (h : VZA m G v1 ea) (o : Cl g f ea e3) (nx : Nx1 f) (hv : v = v1.bind fun a => f a := by first | with_reducible rfl | simp only [N.bind_ok, N.bind_assoc] | rfl) : VZ (zC' g m) G v e3 := ⟨by rw [hv]; exact noex_bind h.1 fun a => nx a, fun τ s c q => by
  rw [hv] at q
  obtain ⟨a, ea', q⟩ := N.bind_of q
  obtain ⟨d1, k1, k2⟩ := h.2 τ s a ea'
  obtain ⟨d, p1, p2⟩ := o a d1 c k2 q
  exact ⟨d, by unfold zC'; rw [k1]; exact p1, p2⟩⟩
theorem ve_z {m : MZ} {v : N α} {e : EP α} (h : VZ m G v e) (z : Zf e) : VE (eZ m) G v e G X := fun τ s => by
  cases v with
  | ok a =>
    obtain ⟨d, k1, k2⟩ := h.2 τ s a rfl
    refine ⟨d, τ, ?_, k2, s⟩
    unfold eZ
    rw [k1]
    show (if isFz d = true then _ else _) = _
    rw [if_pos (z _ _ k2)]
  | ex c => exact absurd rfl (h.1 c)
  | bad => trivial
theorem ve_var {i : Nat} {e e' : EP α} {x : α} (z : Fz e e') (h : nth G i = .val e x := by rfl) : VE (eVar i) G (.ok x) e' (put G i (.val e' x)) X := fun τ s => by
  obtain ⟨d, k1, k2⟩ := s.get h
  have k3 := z _ _ k2
  by_cases c : isFz d = true
  · refine ⟨d, τ, ?_, ?_, ?_⟩
    · unfold eVar; rw [k1]
      show (if isFz d = true then _ else _) = _
      rw [if_pos c]
    · rw [freeze_of c] at k3; exact k3
    · have e1 : τ.set i (some d) = τ := by
        apply List.ext_getElem?
        intro j
        rw [List.getElem?_set]
        split
        · rename_i q; subst q; split
          · exact (getD_some k1).symm
          · rename_i hl; rw [List.getElem?_eq_none (by omega)]
        · rfl
      have := Is.put (q := Slot.val e' x) (o := some d) (show Slot.h _ _ from ⟨d, rfl, by rw [freeze_of c] at k3; exact k3⟩) i s
      rw [e1] at this
      exact this
  · refine ⟨freeze d, τ.set i (some (freeze d)), ?_, k3, Is.put (q := Slot.val e' x) (o := some (freeze d)) (show Slot.h _ _ from ⟨_, rfl, k3⟩) i s⟩
    unfold eVar; rw [k1]
    show (if isFz d = true then _ else _) = _
    rw [if_neg c]
theorem ve_varF {i : Nat} {e : EP α} {x : α} (z : Zf e) (h : nth G i = .val e x := by rfl) : VE (eVar i) G (.ok x) e G X := fun τ s => by
  obtain ⟨d, k1, k2⟩ := s.get h
  refine ⟨d, τ, ?_, k2, s⟩
  unfold eVar; rw [k1]
  show (if isFz d = true then _ else _) = _
  rw [if_pos (z _ _ k2)]
theorem ve_mv {i : Nat} {e : EP α} {x : α} (h : nth G i = .val e x := by rfl) : VE (eMv i) G (.ok x) e (put G i .any) X := fun τ s => by
  obtain ⟨d, k1, k2⟩ := s.get h
  exact ⟨d, τ.set i none, by unfold eMv; rw [k1], k2, Is.put (q := Slot.any) (o := none) (show Slot.h _ _ from True.intro) i s⟩
theorem sat_ofO {o : Option D} {τ : Env} {v : N γ} {e : EP γ} {G : List Slot} (z : Zf e) (s : Is G τ) (nx : ∀ c, v ≠ .ex c) (h : ∀ c, v = .ok c → ∃ d, o = some d ∧ e c d) : Sat (ofO o τ) v (fun a d τ' => e a d ∧ Is G τ') X := by
  cases v with
  | ok c =>
    obtain ⟨d, k1, k2⟩ := h c rfl
    refine ⟨d, τ, ?_, k2, s⟩
    rw [k1]
    show (if isFz d = true then _ else _) = _
    rw [if_pos (z _ _ k2)]
  | ex c => exact absurd rfl (nx c)
  | bad => trivial
theorem ve_2 {m n : ME} {g : D → D → Option D} {f : α → β → N γ} {e1 : EP α} {e2 : EP β} {e3 : EP γ} {v1 : N α} {v2 : N β} {v : N γ} (h1 : VE m G v1 e1 G1 X) (h2 : VE n G1 v2 e2 G2 X) (o : Op g f e1 e2 e3) (z : Zf e3) (nx : Nx2 f) (hv : v = v1.bind fun a => v2.bind fun b => f a b := by first | with_reducible rfl | simp only [N.bind_ok, N.bind_assoc] | rfl) : VE (Bn.e2 g m n) G v e3 G2 X := fun τ s => by
  rw [hv]
  exact (h1 τ s).bind fun a d1 τ1 ⟨k1, s1⟩ => (h2 τ1 s1).bind fun b d2 τ2 ⟨k2, s2⟩ => sat_ofO z s2 (nx a b) fun c q => o a b d1 d2 c k1 k2 q
/-! arguments -/
theorem va_one {m : ME} {e : EP α} {v : N α} (h : VE m G v e G1 X) : VA (aCons m aNil) G v (eOne e) G1 X := fun τ s => by
  have : v = v.bind N.ok := by cases v <;> rfl
  rw [this]
  exact (h τ s).bind fun a d τ1 ⟨k, s1⟩ => ⟨[d], τ1, rfl, ⟨d, rfl, k⟩, s1⟩
theorem va_cons {m : ME} {n : MA} {e : EP α} {es : EL β} {v : N α} {w : N β} {u : N (α × β)} (h : VE m G v e G1 X) (k : VA n G1 w es G2 X) (hv : u = v.bind fun a => w.bind fun b => .ok (a, b) := by first | with_reducible rfl | simp only [N.bind_ok, N.bind_assoc] | rfl) : VA (aCons m n) G u (eCons e es) G2 X := fun τ s => by
  rw [hv]
  exact (h τ s).bind fun a d τ1 ⟨k1, s1⟩ => (k τ1 s1).bind fun b ds τ2 ⟨k2, s2⟩ => ⟨d :: ds, τ2, rfl, ⟨d, ds, rfl, k1, k2⟩, s2⟩
theorem ve_c {m : MA} {g : List D → Option D} {f : α → N γ} {ea : EL α} {e3 : EP γ} {v1 : N α} {v : N γ} (h : VA m G v1 ea G1 X) (o : Cl g f ea e3) (z : Zf e3) (nx : Nx1 f) (hv : v = v1.bind fun a => f a := by first | with_reducible rfl | simp only [N.bind_ok, N.bind_assoc] | rfl) : VE (eC g m) G v e3 G1 X := fun τ s => by
  rw [hv]
  exact (h τ s).bind fun a d1 τ1 ⟨k1, s1⟩ => sat_ofO z s1 (nx a) fun c q => o a d1 c k1 q
def Len (ea : EL α) (n : Nat) : Prop := ∀ x ds, ea x ds → ds.length = n
theorem len_one {e : EP α} : Len (eOne e) 1 := fun _ _ ⟨_, h, _⟩ => by rw [h]; rfl
theorem len_cons {e : EP α} {es : EL β} {n : Nat} (h : Len es n) : Len (eCons e es) (n + 1) := fun _ _ ⟨_, _, q, _, k⟩ => by rw [q]; exact congrArg (· + 1) (h _ _ k)
theorem ve_tup {m : MA} {v : N α} {ea ea' : EL α} {n : Nat} (h : VA m G v ea G1 X) (z : FzL ea ea') (l : Len ea n) (hn : n ≤ 1000000 := by decide) : VE (eTup m) G v (eTu ea') G1 X := fun τ s => by
  have : v = v.bind N.ok := by cases v <;> rfl
  rw [this]
  exact (h τ s).bind fun a ds τ1 ⟨k1, s1⟩ => by
    refine ⟨.tup (freezeL ds), τ1, ?_, ⟨_, rfl, z _ _ k1⟩, s1⟩
    show (if _ then _ else _) = _
    rw [if_pos (by rw [l _ _ k1]; exact hn)]
/-- items of one kind -/
def VL {α : Type} (m : MA) (G : List Slot) (k : Nat) (v : N (List α)) (e : EP α) (G' : List Slot) (X : Env → Prop) : Prop := ∀ τ, Is G τ → Sat (m τ) v (fun a d τ' => (Al e a d ∧ d.length = k) ∧ Is G' τ') X
theorem vl_nil {e : EP α} : VL aNil G 0 (.ok []) e G X := fun τ s => ⟨[], τ, rfl, ⟨.nil, rfl⟩, s⟩
theorem vl_cons {m : ME} {n : MA} {e : EP α} {k : Nat} {v : N α} {w u : N (List α)} (h : VE m G v e G1 X) (q : VL n G1 k w e G2 X) (hv : u = v.bind fun a => w.bind fun b => .ok (a :: b) := by first | with_reducible rfl | simp only [N.bind_ok, N.bind_assoc] | rfl) : VL (aCons m n) G (k + 1) u e G2 X := fun τ s => by
  rw [hv]
  exact (h τ s).bind fun a d τ1 ⟨k1, s1⟩ => (q τ1 s1).bind fun b ds τ2 ⟨k2, s2⟩ => ⟨d :: ds, τ2, rfl, ⟨.cons k1 k2.1, congrArg (· + 1) k2.2⟩, s2⟩
theorem ve_lst {m : MA} {k : Nat} {v : N (List α)} {e : EP α} (h : VL m G k v e G1 X) (hk : k ≤ 1000000 := by decide) : VE (eLst m) G v (eLi true e) G1 X := fun τ s => by
  have : v = v.bind N.ok := by cases v <;> rfl
  rw [this]
  exact (h τ s).bind fun a ds τ1 ⟨k1, s1⟩ => by
    refine ⟨.lst true ds, τ1, ?_, ⟨_, rfl, k1.1⟩, s1⟩
    show (if _ then _ else _) = _
    rw [if_pos (by rw [k1.2]; exact hk)]
/-! tests -/
theorem vt_z {m : MZ} {v : N Bool} (h : VZ m G v eB) : VT (tZ m) G v G X := fun τ s => by
  cases v with
  | ok a =>
    obtain ⟨d, k1, k2⟩ := h.2 τ s a rfl
    cases (show d = .bl a from k2)
    exact ⟨a, τ, by unfold tZ; rw [k1], rfl, s⟩
  | ex c => exact absurd rfl (h.1 c)
  | bad => trivial
theorem vt_e {m : ME} {v : N Bool} (h : VE m G v eB G1 X) : VT (tE m) G v G1 X := fun τ s => by
  have : v = v.bind N.ok := by cases v <;> rfl
  rw [this]
  exact (h τ s).bind fun a d τ1 ⟨k1, s1⟩ => by
    cases (show d = .bl a from k1)
    exact ⟨a, τ1, rfl, rfl, s1⟩
def N.and (v w : N Bool) : N Bool := v.bind fun a => if a = true then w else .ok false
def N.or (v w : N Bool) : N Bool := v.bind fun a => if a = true then .ok true else w
def N.not (v : N Bool) : N Bool := v.bind fun a => .ok !a
theorem vt_and {m n : MT} {v w : N Bool} (h : VT m G v G1 X) (k : VT n G1 w G2 X) (j : Ent G1 G2) : VT (tAnd m n) G (N.and v w) G2 X := fun τ s => (h τ s).bind fun a d τ1 ⟨k1, s1⟩ => by
  subst k1
  cases a with
  | true => rw [if_pos rfl, if_pos rfl]; exact k τ1 s1
  | false => rw [if_neg (by decide), if_neg (by decide)]; exact ⟨false, τ1, rfl, rfl, j _ s1⟩
theorem vt_or {m n : MT} {v w : N Bool} (h : VT m G v G1 X) (k : VT n G1 w G2 X) (j : Ent G1 G2) : VT (tOr m n) G (N.or v w) G2 X := fun τ s => (h τ s).bind fun a d τ1 ⟨k1, s1⟩ => by
  subst k1
  cases a with
  | true => rw [if_pos rfl, if_pos rfl]; exact ⟨true, τ1, rfl, rfl, j _ s1⟩
  | false => rw [if_neg (by decide), if_neg (by decide)]; exact k τ1 s1
theorem vt_not {m : MT} {v : N Bool} (h : VT m G v G1 X) : VT (tNot m) G (N.not v) G1 X := fun τ s => (h τ s).bind fun a d τ1 ⟨k1, s1⟩ => by
  subst k1
  exact ⟨!a, τ1, rfl, rfl, s1⟩
/-! calls -/
def SatC {γ : Type} (r : CR) (v : N γ) (e : EP γ) : Prop := match v with
  | .ok a => ∃ d, r = .ok d ∧ e a d
  | .ex c => r = .ex c
  | .bad => True
def VF (f : List D → CR) (n : α → N γ) (ea : EL α) (er : EP γ) : Prop := ∀ a ds, ea a ds → SatC (f ds) (n a) er
theorem sat_ofC {r : CR} {τ : Env} {v : N γ} {e : EP γ} (h : SatC r v e) (s : Is G τ) (x : ∀ τ, Is G τ → X τ) : Sat (ofC r τ) v (fun a d τ' => e a d ∧ Is G τ') X := by
  cases v with
  | ok a =>
    obtain ⟨d, e1, e2⟩ := h
    rw [e1]
    exact ⟨d, τ, rfl, e2, s⟩
  | ex c =>
    rw [show r = .ex c from h]
    exact ⟨τ, rfl, x _ s⟩
  | bad => trivial
theorem ve_call {m : MA} {f : List D → CR} {n : α → N γ} {ea ea' : EL α} {er : EP γ} {v1 : N α} {v : N γ} (h : VA m G v1 ea G1 X) (k : VF f n ea' er) (z : FzL ea ea') (x : ∀ τ, Is G1 τ → X τ) (hv : v = v1.bind fun a => n a := by first | with_reducible rfl | simp only [N.bind_ok, N.bind_assoc] | rfl) : VE (eCall f m) G v er G1 X := fun τ s => by
  rw [hv]
  exact (h τ s).bind fun a ds τ1 ⟨k1, s1⟩ => sat_ofC (k a _ (z _ _ k1)) s1 x
end
end Bn

/-! Statements by plain functions. -/
namespace Bn
open PySem PySem.Spec PyProof.Rows L2

/-! ### what is walked -/
def VI {α : Type} (m : MA) (G : List Slot) (v : N (List α)) (e : EP α) (G' : List Slot) (X : Env → Prop) : Prop := ∀ τ, Is G τ → Sat (m τ) v (fun a d τ' => Al e a d ∧ Is G' τ') X
@[irreducible] def N.range (n : Int) : N (List Int) := if -(2 ^ 62) ≤ n ∧ n < 2 ^ 62 then .ok ((List.range n.toNat).map fun k : Nat => (k : Int)) else .bad
@[irreducible] def N.range2 (i j : Int) : N (List Int) := if -(2 ^ 62) ≤ i ∧ i < 2 ^ 62 ∧ -(2 ^ 62) ≤ j ∧ j < 2 ^ 62 then .ok ((List.range (j - i).toNat).map fun k : Nat => i + (k : Int)) else .bad
@[irreducible] def N.rangeN (i j : Int) : N (List Int) := if -(2 ^ 62) ≤ i ∧ i < 2 ^ 62 ∧ -(2 ^ 62) ≤ j ∧ j < 2 ^ 62 then .ok ((List.range (i - j).toNat).map fun k : Nat => i + (k : Int) * (-1)) else .bad
def enumN {α : Type} : Nat → List α → List (Int × α)
  | _, [] => []
  | i, x :: xs => ((i : Int), x) :: enumN (i + 1) xs
def signs (s : Str) : List Str := s.cps.toList.map fun c => ⟨#[c]⟩
theorem N.range_ok {n : Nat} (h : (n : Int) < 2 ^ 62) : N.range (n : Int) = .ok ((List.range n).map fun k : Nat => (k : Int)) := by
  unfold N.range
  rw [if_pos ⟨by omega, h⟩, Int.toNat_natCast]
section
variable {α β γ : Type} {G G1 G2 G' : List Slot} {X : Env → Prop}
theorem vi_l {m : ME} {v : N (List α)} {b : Bool} {e e' : EP α} (h : VE m G v (eLi b e) G1 X) (z : Fz (eLi b e) (eLi false e')) : VI (iL m) G v e' G1 X := fun τ s => by
  have : v = v.bind N.ok := by cases v <;> rfl
  rw [this]
  exact (h τ s).bind fun a d τ1 ⟨k1, s1⟩ => by
    obtain ⟨ds, k2, k3⟩ := z _ _ k1
    refine ⟨ds, τ1, ?_, k3, s1⟩
    show (match freeze d with | .lst _ es => R.ok es τ1 | _ => .bad) = _
    rw [k2]
theorem vi_r1 {m : MA} {v : N Int} {w : N (List Int)} (h : VA m G v (eOne eI) G1 X) (hw : w = v.bind fun n => N.range n := by first | with_reducible rfl | simp only [N.bind_ok, N.bind_assoc] | rfl) : VI (iR1 m) G w eI G1 X := fun τ s => by
  rw [hw]
  exact (h τ s).bind fun n ds τ1 ⟨⟨d, e1, e2⟩, s1⟩ => by
    cases (show d = .int n from e2)
    subst e1
    unfold N.range
    by_cases c : -(2 ^ 62) ≤ n ∧ n < 2 ^ 62
    · rw [if_pos c]
      refine ⟨rangeD 0 n.toNat, τ1, ?_, ?_, s1⟩
      · show (if _ then _ else _) = _
        rw [if_pos c]
      · unfold rangeD
        have : (List.range n.toNat).map (fun k : Nat => D.int (0 + (k : Nat))) = ((List.range n.toNat).map fun k : Nat => (k : Int)).map D.int := by
          rw [List.map_map]
          exact List.map_congr_left fun k _ => by show D.int (0 + (k : Int)) = D.int (k : Int); congr 1; omega
        rw [this]
        exact al_ints _
    · rw [if_neg c]; trivial
theorem al_enum {e : EP α} : ∀ (i : Nat) {xs : List α} {ds : List D}, Al e xs ds → Al (eTu (eCons eI (eOne e))) (enumN i xs) (enumD i ds)
  | _, _, _, .nil => .nil
  | i, _, _, .cons a b => .cons ⟨_, rfl, _, _, rfl, rfl, _, rfl, a⟩ (al_enum (i + 1) b)
theorem al_zip {e : EP α} {e' : EP β} : ∀ {xs : List α} {ys : List β} {ds es : List D}, Al e xs ds → Al e' ys es → Al (eTu (eCons e (eOne e'))) (xs.zip ys) (zipD ds es)
  | _, _, _, _, .nil, _ => .nil
  | _, _, _, _, .cons _ _, .nil => .nil
  | _, _, _, _, .cons a b, .cons a' b' => .cons ⟨_, rfl, _, _, rfl, a, _, rfl, a'⟩ (al_zip b b')
theorem Al.rev {e : EP α} : ∀ {xs : List α} {ds : List D}, Al e xs ds → Al e xs.reverse ds.reverse
  | _, _, .nil => .nil
  | _, _, .cons a b => by rw [List.reverse_cons, List.reverse_cons]; exact b.rev.append (.cons a .nil)
theorem vi_enum {m : MA} {v : N (List α)} {w : N (List (Int × α))} {b : Bool} {e e' : EP α} (h : VA m G v (eOne (eLi b e)) G1 X) (z : Fz (eLi b e) (eLi false e')) (hw : w = v.bind fun xs => .ok (enumN 0 xs) := by first | with_reducible rfl | simp only [N.bind_ok, N.bind_assoc] | rfl) : VI (iE m) G w (eTu (eCons eI (eOne e'))) G1 X := fun τ s => by
  rw [hw]
  exact (h τ s).bind fun xs ds τ1 ⟨⟨d, e1, e2⟩, s1⟩ => by
    obtain ⟨es, k2, k3⟩ := z _ _ e2
    subst e1
    refine ⟨enumD 0 es, τ1, ?_, al_enum 0 k3, s1⟩
    show (match freezeL [d] with | [.lst _ es] => R.ok (enumD 0 es) τ1 | _ => .bad) = _
    rw [show freezeL [d] = [freeze d] from rfl, k2]
theorem vi_zip {m : MA} {v : N (List α × List β)} {w : N (List (α × β))} {b b' : Bool} {e1 e1' : EP α} {e2 e2' : EP β} (h : VA m G v (eCons (eLi b e1) (eOne (eLi b' e2))) G1 X) (z : Fz (eLi b e1) (eLi false e1')) (z' : Fz (eLi b' e2) (eLi false e2')) (hw : w = v.bind fun p => .ok (p.1.zip p.2) := by first | with_reducible rfl | simp only [N.bind_ok, N.bind_assoc] | rfl) : VI (iZ m) G w (eTu (eCons e1' (eOne e2'))) G1 X := fun τ s => by
  rw [hw]
  exact (h τ s).bind fun xs ds τ1 ⟨⟨d, r, q1, q2, d', q3, q4⟩, s1⟩ => by
    obtain ⟨es, k2, k3⟩ := z _ _ q2
    obtain ⟨fs, l2, l3⟩ := z' _ _ q4
    subst q3; subst q1
    refine ⟨zipD es fs, τ1, ?_, al_zip k3 l3, s1⟩
    show (match freezeL [d, d'] with | [.lst _ es, .lst _ fs] => R.ok (zipD es fs) τ1 | _ => .bad) = _
    rw [show freezeL [d, d'] = [freeze d, freeze d'] from rfl, k2, l2]

/-! ### targets -/
def VG (g : D → Env → Option Env) (e : EP α) (p : α → List Slot → List Slot) : Prop := ∀ a d τ G, e a d → Is G τ → ∃ τ', g d τ = some τ' ∧ Is (p a G) τ'
def VGs (g : List D → Env → Option Env) (e : EL α) (p : α → List Slot → List Slot) : Prop := ∀ a d τ G, e a d → Is G τ → ∃ τ', g d τ = some τ' ∧ Is (p a G) τ'
theorem vg_n {i : Nat} {e : EP α} : VG (gN i) e fun a G => put G i (.val e a) := fun a d τ G h s => ⟨_, rfl, Is.put (q := Slot.val e a) (o := some d) (show Slot.h _ _ from ⟨d, rfl, h⟩) i s⟩
theorem vgs_one {g : D → Env → Option Env} {e : EP α} {p : α → List Slot → List Slot} (h : VG g e p) : VGs (gCons' g gNil') (eOne e) p := fun a ds τ G ⟨d, q, k⟩ s => by
  subst q
  obtain ⟨τ', h1, h2⟩ := h a d τ G k s
  refine ⟨τ', ?_, h2⟩
  show (g d τ).bind (gNil' []) = _
  rw [h1]; rfl
theorem vgs_cons {g : D → Env → Option Env} {gs : List D → Env → Option Env} {e : EP α} {es : EL β} {p : α → List Slot → List Slot} {ps : β → List Slot → List Slot} (h : VG g e p) (k : VGs gs es ps) : VGs (gCons' g gs) (eCons e es) fun a G => ps a.2 (p a.1 G) := fun a ds τ G ⟨d, r, q, k1, k2⟩ s => by
  subst q
  obtain ⟨τ', h1, h2⟩ := h a.1 d τ G k1 s
  obtain ⟨τ2, h3, h4⟩ := k a.2 r τ' _ k2 h2
  refine ⟨τ2, ?_, h4⟩
  show (g d τ).bind (gs r) = _
  rw [h1]; exact h3
theorem vg_t {n : Nat} {gs : List D → Env → Option Env} {es : EL α} {p : α → List Slot → List Slot} (k : VGs gs es p) (l : Len es n) : VG (gT n gs) (eTu es) p := fun a d τ G ⟨ds, q, k1⟩ s => by
  subst q
  obtain ⟨τ2, h3, h4⟩ := k a ds τ _ k1 s
  refine ⟨τ2, ?_, h4⟩
  show (if ds.length = n then gs ds τ else none) = _
  rw [if_pos (l _ _ k1)]; exact h3
end

/-! ### statements -/
section
variable {α β γ σ σ' κ ρ : Type} {G G1 G2 : List Slot} {G' : σ → List Slot} {L : κ → List Slot} {er : ρ → D → Env → Prop} {X : Env → Prop}
def SatS (r : SR) (n : NS σ κ ρ) (G' : σ → List Slot) (L : κ → List Slot) (er : ρ → D → Env → Prop) (X : Env → Prop) : Prop := match n with
  | .nx s => ∃ τ', r = .nx τ' ∧ Is (G' s) τ'
  | .bk l => ∃ τ', r = .bk τ' ∧ Is (L l) τ'
  | .ct l => ∃ τ', r = .ct τ' ∧ Is (L l) τ'
  | .rt a => ∃ d τ', r = .rt d τ' ∧ er a d τ'
  | .ex c => ∃ τ', r = .ex c τ' ∧ X τ'
  | .bad => True
def VS (m : MS) (G : List Slot) (n : NS σ κ ρ) (G' : σ → List Slot) (L : κ → List Slot) (er : ρ → D → Env → Prop) (X : Env → Prop) : Prop := ∀ τ, Is G τ → SatS (m τ) n G' L er X
theorem Sat.s {β' : Type} {r : R β} {v : N α} {P : α → β → Env → Prop} {k : β → Env → SR} {w : α → NS σ κ ρ} (h : Sat r v P X) (q : ∀ a d τ, P a d τ → SatS (k d τ) (w a) G' L er X) : SatS (r.s k) (v.s w) G' L er X := by
  cases v with
  | ok a =>
    obtain ⟨d, τ', e, p⟩ := h
    rw [e]
    exact q a d τ' p
  | ex c =>
    obtain ⟨τ', e, p⟩ := h
    rw [e]
    exact ⟨τ', rfl, p⟩
  | bad => trivial
theorem Sat.sSeq {β' : Type} {r : R β} {v : N α} {P : α → β → Env → Prop} {k : β → Env → SR} {b : MS} {w : α → NS σ κ ρ} (h : Sat r v P X) (q : ∀ a d τ, P a d τ → SatS (Bn.sSeq (fun _ => k d τ) b τ) (w a) G' L er X) : SatS (Bn.sSeq (fun _ => r.s k) b []) (v.s w) G' L er X := by
  cases v with
  | ok a =>
    obtain ⟨d, τ', e, p⟩ := h
    rw [e]
    exact q a d τ' p
  | ex c =>
    obtain ⟨τ', e, p⟩ := h
    rw [e]
    exact ⟨τ', rfl, p⟩
  | bad => trivial
theorem SatS.seq {r : SR} {n : NS σ' κ ρ} {G1 : σ' → List Slot} {b : MS} {k : σ' → NS σ κ ρ} (h : SatS r n G1 L er X) (q : ∀ s τ, Is (G1 s) τ → SatS (b τ) (k s) G' L er X) : SatS (Bn.sSeq (fun _ => r) b []) (n.s k) G' L er X := by
  cases n with
  | nx s => obtain ⟨τ', e, p⟩ := h; rw [e]; exact q s τ' p
  | bk s => obtain ⟨τ', e, p⟩ := h; rw [e]; exact ⟨τ', rfl, p⟩
  | ct s => obtain ⟨τ', e, p⟩ := h; rw [e]; exact ⟨τ', rfl, p⟩
  | rt s => obtain ⟨d, τ', e, p⟩ := h; rw [e]; exact ⟨d, τ', rfl, p⟩
  | ex s => obtain ⟨τ', e, p⟩ := h; rw [e]; exact ⟨τ', rfl, p⟩
  | bad => trivial
theorem vs_one {m : MS} {n : NS σ κ ρ} (h : VS (sSeq m sNil) G n G' L er X) : VS m G n G' L er X := fun τ s => by
  have q := h τ s
  have : sSeq m sNil τ = m τ := by unfold sSeq sNil; cases m τ <;> rfl
  rw [this] at q; exact q
theorem vs_end {s : σ} (h : Ent G (G' s)) : VS sNil G (.nx s : NS σ κ ρ) G' L er X := fun τ q => ⟨τ, rfl, h τ q⟩
theorem vs_doc {r : MS} {n : NS σ κ ρ} (h : VS r G n G' L er X) : VS (sSeq sNil r) G n G' L er X := h
theorem vs_assoc {a b c : MS} {n : NS σ κ ρ} (h : VS (sSeq a (sSeq b c)) G n G' L er X) : VS (sSeq (sSeq a b) c) G n G' L er X := fun τ s => by
  have q := h τ s
  have : sSeq (sSeq a b) c τ = sSeq a (sSeq b c) τ := by unfold sSeq; cases a τ <;> rfl
  rw [this]; exact q
theorem vs_stop {a c : MS} {n : NS σ κ ρ} (h : VS a G n (fun _ => [.val (fun (_ : Unit) _ => False) ()]) L er X) : VS (sSeq a c) G n G' L er X := fun τ s => by
  have q := h τ s
  show SatS (sSeq a c τ) n G' L er X
  unfold sSeq
  cases n with
  | nx s => obtain ⟨τ', e, _, _, _, ⟨_, _, p⟩, _⟩ := q; exact p.elim
  | bk s => obtain ⟨τ', e, p⟩ := q; rw [e]; exact ⟨τ', rfl, p⟩
  | ct s => obtain ⟨τ', e, p⟩ := q; rw [e]; exact ⟨τ', rfl, p⟩
  | rt s => obtain ⟨d, τ', e, p⟩ := q; rw [e]; exact ⟨d, τ', rfl, p⟩
  | ex s => obtain ⟨τ', e, p⟩ := q; rw [e]; exact ⟨τ', rfl, p⟩
  | bad => trivial
theorem vs_asg {m : ME} {g : D → Env → Option Env} {r : MS} {v : N α} {e : EP α} {p : α → List Slot → List Slot} {k : α → NS σ κ ρ} (h : VE m G v e G1 X) (hg : VG g e p) (hr : ∀ a, VS r (p a G1) (k a) G' L er X) : VS (sSeq (sAsg m g) r) G (v.s k) G' L er X := fun τ s => by
  exact (h τ s).sSeq (β' := D) (k := fun d τ1 => match g d τ1 with | some τ2 => .nx τ2 | none => .bad) fun a d τ1 ⟨k1, s1⟩ => by
    obtain ⟨τ2, e1, e2⟩ := hg a d τ1 G1 k1 s1
    show SatS (Bn.sSeq (fun _ => match g d τ1 with | some τ2 => .nx τ2 | none => .bad) r τ1) (k a) G' L er X
    rw [e1]
    exact hr a τ2 e2
theorem vs_asgP {m : ME} {g : D → Env → Option Env} {r : MS} {a : α} {e : EP α} {p : α → List Slot → List Slot} {n : NS σ κ ρ} (h : VE m G (.ok a) e G1 X) (hg : VG g e p) (hr : VS r (p a G1) n G' L er X) : VS (sSeq (sAsg m g) r) G n G' L er X := fun τ s => by
  obtain ⟨d, τ1, e0, k1, s1⟩ := h τ s
  obtain ⟨τ2, e1, e2⟩ := hg a d τ1 G1 k1 s1
  have : sSeq (sAsg m g) r τ = r τ2 := by
    unfold sSeq sAsg
    rw [e0]
    show (match (match g d τ1 with | some τ2 => SR.nx τ2 | none => .bad) with | .nx τ' => r τ' | .rt d τ' => .rt d τ' | .bk τ' => .bk τ' | .ct τ' => .ct τ' | .ex c τ' => .ex c τ' | .bad => .bad) = _
    rw [e1]
  rw [this]
  exact hr τ2 e2
theorem vs_ret {m : ME} {v : N α} {e : EP α} (h : VE m G v e G1 X) (f : α → ρ) (z : ∀ a d τ, e a d → Is G1 τ → er (f a) d τ) : VS (sRet m) G (v.s fun a => .rt (f a)) G' L er X := fun τ s => by
  exact (h τ s).s (β' := D) fun a d τ1 ⟨k1, s1⟩ => ⟨d, τ1, rfl, z _ _ _ k1 s1⟩
theorem vs_if {c : MT} {a b r : MS} {v : N Bool} {n1 n2 : NS σ κ ρ} (h : VT c G v G1 X) (h1 : VS (sSeq a r) G1 n1 G' L er X) (h2 : VS (sSeq b r) G1 n2 G' L er X) : VS (sSeq (sIf c a b) r) G (v.s fun x => if x = true then n1 else n2) G' L er X := fun τ s => by
  exact (h τ s).sSeq (β' := D) (k := fun x τ1 => if x = true then a τ1 else b τ1) fun x d τ1 ⟨k1, s1⟩ => by
    subst k1
    cases x with
    | true =>
      rw [if_pos rfl]
      exact h1 τ1 s1
    | false =>
      rw [if_neg (by decide)]
      exact h2 τ1 s1
theorem vs_ifJ {c : MT} {a b r : MS} {v : N Bool} {n1 n2 : NS σ' κ ρ} {GJ : σ' → List Slot} {k : σ' → NS σ κ ρ} (h : VT c G v G1 X) (h1 : VS a G1 n1 GJ L er X) (h2 : VS b G1 n2 GJ L er X) (hr : ∀ s, VS r (GJ s) (k s) G' L er X) : VS (sSeq (sIf c a b) r) G ((v.s fun x => if x = true then n1 else n2).s k) G' L er X := fun τ s => by
  refine SatS.seq (r := sIf c a b τ) (G1 := GJ) ?_ fun s τ q => hr s τ q
  exact (h τ s).s (β' := D) fun x d τ1 ⟨k1, s1⟩ => by
    subst k1
    cases x with
    | true => rw [if_pos rfl]; exact h1 τ1 s1
    | false => rw [if_neg (by decide)]; exact h2 τ1 s1
theorem vs_ifP {c : MT} {a b r : MS} {x : Bool} {n1 n2 : NS σ κ ρ} (h : VT c G (.ok x) G1 X) (h1 : VS (sSeq a r) G1 n1 G' L er X) (h2 : VS (sSeq b r) G1 n2 G' L er X) : VS (sSeq (sIf c a b) r) G (if x = true then n1 else n2) G' L er X := vs_if h h1 h2
theorem vs_retP {m : ME} {a : α} {e : EP α} (h : VE m G (.ok a) e G1 X) (f : α → ρ) (z : ∀ a d τ, e a d → Is G1 τ → er (f a) d τ) : VS (sRet m) G (.rt (f a) : NS σ κ ρ) G' L er X := vs_ret h f z
/-! loops -/
/-- more turns than any loop takes -/
@[irreducible] def fuelN : Nat := 2 ^ 200
def forN (b : α → σ → NS σ σ ρ) : List α → σ → NS σ κ ρ
  | [], s => .nx s
  | x :: xs, s => match b x s with
    | .nx s' => forN b xs s'
    | .ct s' => forN b xs s'
    | .bk s' => .nx s'
    | .rt r => .rt r
    | .ex c => .ex c
    | .bad => .bad
theorem sat_forN {g : D → Env → Option Env} {body : MS} {e : EP α} {p : α → List Slot → List Slot} {GI : σ → List Slot} {nb : α → σ → NS σ σ ρ} (hg : VG g e p) (hb : ∀ x s, VS body (p x (GI s)) (nb x s) GI GI er X) : ∀ {xs : List α} {ds : List D} (s : σ) (τ : Env), Al e xs ds → Is (GI s) τ → SatS (forL g body ds τ) (forN nb xs s : NS σ κ ρ) GI L er X
  | _, _, s, τ, .nil, q => ⟨τ, rfl, q⟩
  | _, _, s, τ, .cons (x := x) (d := d) (xs := xs) (ds := ds) a t, q => by
    obtain ⟨τ1, e1, e2⟩ := hg x d τ _ a q
    have k := hb x s τ1 e2
    unfold forN forL
    rw [e1]
    show SatS (match body τ1 with | .nx τ2 => forL g body ds τ2 | .ct τ2 => forL g body ds τ2 | .bk τ2 => .nx τ2 | .rt d τ2 => .rt d τ2 | .ex c τ2 => .ex c τ2 | .bad => .bad) _ _ _ _ _
    cases e3 : nb x s with
    | nx s' => rw [e3] at k; obtain ⟨τ2, k1, k2⟩ := k; rw [k1]; exact sat_forN hg hb s' τ2 t k2
    | ct s' => rw [e3] at k; obtain ⟨τ2, k1, k2⟩ := k; rw [k1]; exact sat_forN hg hb s' τ2 t k2
    | bk s' => rw [e3] at k; obtain ⟨τ2, k1, k2⟩ := k; rw [k1]; exact ⟨τ2, rfl, k2⟩
    | rt r => rw [e3] at k; obtain ⟨d2, τ2, k1, k2⟩ := k; rw [k1]; exact ⟨d2, τ2, rfl, k2⟩
    | ex c => rw [e3] at k; obtain ⟨τ2, k1, k2⟩ := k; rw [k1]; exact ⟨τ2, rfl, k2⟩
    | bad => trivial
theorem vs_for {it : MA} {g : D → Env → Option Env} {body r : MS} {v : N (List α)} {e : EP α} {p : α → List Slot → List Slot} {GI : σ' → List Slot} {nb : α → σ' → NS σ' σ' ρ} {s0 : σ'} {k : σ' → NS σ κ ρ} (h : VI it G v e G1 X) (hg : VG g e p) (h0 : Ent G1 (GI s0)) (hb : ∀ x s, VS body (p x (GI s)) (nb x s) GI GI er X) (hr : ∀ s, VS r (GI s) (k s) G' L er X)
 : VS (sSeq (sFor it g body) r) G (v.s fun xs => (forN nb xs s0).s k) G' L er X := fun τ s => by
  exact (h τ s).sSeq (β' := D) (k := fun items τ1 => forL g body items τ1) fun xs ds τ1 ⟨k1, s1⟩ => SatS.seq (r := forL g body ds τ1) (G1 := GI) (sat_forN hg hb s0 τ1 k1 (h0 _ s1)) fun s τ q => hr s τ q
def whileN (c : σ → N Bool) (b : σ → NS σ σ ρ) : Nat → σ → NS σ κ ρ
  | 0, _ => .bad
  | n + 1, s => match c s with
    | .ok true => (match b s with
      | .nx s' => whileN c b n s'
      | .ct s' => whileN c b n s'
      | .bk s' => .nx s'
      | .rt r => .rt r
      | .ex e => .ex e
      | .bad => .bad)
    | .ok false => .nx s
    | .ex e => .ex e
    | .bad => .bad
/-! lists that change -/
theorem vs_app {i : Nat} {m : ME} {r : MS} {xs : List α} {v : N α} {e : EP α} {k : α → NS σ κ ρ} (h : VE m G v e G1 X) (hk : ∀ a, VS r (put G1 i (.val (eLi true e) (xs ++ [a]))) (k a) G' L er X) (h0 : nth G i = .val (eLi true e) xs := by rfl) (h1 : nth G1 i = .val (eLi true e) xs := by rfl)
 : VS (sSeq (sApp i m) r) G (v.s fun a => if xs.length < 1000000 then k a else .bad) G' L er X := fun τ s => by
  obtain ⟨d0, k1, ds0, k2, k3⟩ := s.get h0
  subst k2
  show SatS (sSeq (fun _ => sApp i m τ) r []) _ _ _ _ _
  unfold sApp
  rw [k1]
  refine (h τ s).sSeq (β' := D) fun a d τ1 ⟨l1, s1⟩ => ?_
  obtain ⟨d1, p1, ds1, p2, p3⟩ := s1.get h1
  subst p2
  rw [p1]
  show SatS (sSeq (fun _ => if ds1.length < 1000000 then SR.nx (τ1.set i (some (.lst true (ds1 ++ [d])))) else .bad) r τ1) _ _ _ _ _
  rw [p3.length]
  by_cases c : xs.length < 1000000
  · rw [if_pos c, if_pos c]
    exact hk a _ (Is.put (q := Slot.val (eLi true e) (xs ++ [a])) (o := some (.lst true (ds1 ++ [d]))) (show Slot.h _ _ from ⟨_, rfl, _, rfl, p3.append (.cons l1 .nil)⟩) i s1)
  · rw [if_neg c, if_neg c]; exact True.intro
theorem vs_appP {i : Nat} {m : ME} {r : MS} {xs : List α} {a : α} {e : EP α} {n1 : NS σ κ ρ} (h : VE m G (.ok a) e G1 X) (hk : VS r (put G1 i (.val (eLi true e) (xs ++ [a]))) n1 G' L er X) (h0 : nth G i = .val (eLi true e) xs := by rfl) (h1 : nth G1 i = .val (eLi true e) xs := by rfl)
 : VS (sSeq (sApp i m) r) G (if xs.length < 1000000 then n1 else .bad) G' L er X := fun τ s => by
  obtain ⟨d0, k1, ds0, k2, k3⟩ := s.get h0
  subst k2
  obtain ⟨d, τ1, q1, l1, s1⟩ := h τ s
  obtain ⟨d1, p1, ds1, p2, p3⟩ := s1.get h1
  subst p2
  have z : sSeq (sApp i m) r τ = sSeq (fun _ => if ds1.length < 1000000 then SR.nx (τ1.set i (some (.lst true (ds1 ++ [d])))) else .bad) r τ1 := by
    unfold sSeq sApp
    rw [k1]
    simp only [q1, R.s, p1]
  rw [z, p3.length]
  by_cases c : xs.length < 1000000
  · rw [if_pos c, if_pos c]
    exact hk _ (Is.put (q := Slot.val (eLi true e) (xs ++ [a])) (o := some (.lst true (ds1 ++ [d]))) (show Slot.h _ _ from ⟨_, rfl, _, rfl, p3.append (.cons l1 .nil)⟩) i s1)
  · rw [if_neg c, if_neg c]; exact True.intro
@[irreducible] def setN (xs : List α) (k : Int) (a : α) : N (List α) := N.o ((ixN xs.length k).map fun j => xs.set j a)
theorem Al.set {e : EP α} : ∀ {xs : List α} {ds : List D} (j : Nat) {a : α} {d : D}, Al e xs ds → e a d → Al e (xs.set j a) (ds.set j d)
  | _, _, _, _, _, .nil, _ => .nil
  | _, _, 0, _, _, .cons _ b, h => .cons h b
  | _, _, j + 1, _, _, .cons a b, h => .cons a (b.set j h)
end

/-! ### list comprehensions -/
section
variable {α β γ : Type} {G G1 G2 GI : List Slot} {X : Env → Prop}
def lcR (t : α → N Bool) (f : α → N β) : List α → N (List β)
  | [] => .ok []
  | x :: xs => match t x with
    | .ok true => (match f x with
      | .ok b => (match lcR t f xs with
        | .ok bs => .ok (b :: bs)
        | _ => .bad)
      | _ => .bad)
    | .ok false => lcR t f xs
    | _ => .bad
theorem lcR_noex (nt : α → N Bool) (nf : α → N β) : ∀ (xs : List α) (c : Str), lcR nt nf xs ≠ .ex c
  | [], c, er => by cases er
  | x :: xs, c, er => by
    unfold lcR at er
    cases e1 : nt x with
    | ok b =>
      simp only [e1] at er
      cases b with
      | true =>
        cases e2 : nf x with
        | ok b => simp only [e2] at er; cases e3 : lcR nt nf xs with
          | ok bs => simp only [e3] at er; cases er
          | ex c => simp only [e3] at er; cases er
          | bad => simp only [e3] at er; cases er
        | ex c => simp only [e2] at er; cases er
        | bad => simp only [e2] at er; cases er
      | false => exact lcR_noex nt nf xs c er
    | ex c => simp only [e1] at er; cases er
    | bad => simp only [e1] at er; cases er
@[irreducible] def lcN (t : α → N Bool) (f : α → N β) (xs : List α) : N (List β) := if xs.length ≤ 1000000 then lcR t f xs else .bad
def wipeG (G : List Slot) : List Nat → List Slot
  | [] => G
  | v :: vs => put (wipeG G vs) v .any
theorem Is.wipe {τ : Env} (s : Is G τ) : ∀ own : List Nat, Is (wipeG G own) (wipeE τ own)
  | [] => s
  | v :: vs => Is.put (q := Slot.any) (o := none) True.intro v (s.wipe vs)
theorem sat_lc {own : List Nat} {g : D → Env → Option Env} {t : MT} {m : ME} {e : EP α} {e' : EP β} {p : α → List Slot → List Slot} {nt : α → N Bool} {nf : α → N β} {G2 G3 : α → List Slot} (hg : VG g e p) (ht : ∀ x, VT t (p x GI) (nt x) (G2 x) fun _ => True) (hm : ∀ x, VE m (G2 x) (nf x) e' (G3 x) fun _ => True) (h2 : ∀ x, Ent (wipeG (G2 x) own) GI) (h3 : ∀ x, Ent (wipeG (G3 x) own) GI) :
    ∀ {xs : List α} {ds : List D} (acc : List D) (τ : Env), Al e xs ds → acc.length + xs.length ≤ 1000000 → Is GI τ → ∀ ys, lcR nt nf xs = .ok ys → ∃ es τ', lcL own g t m ds acc τ = .ok (acc ++ es) τ' ∧ Al e' ys es ∧ Is GI τ'
  | _, _, acc, τ, .nil, _, q, ys, h => by
    cases (show N.ok [] = N.ok ys from h)
    exact ⟨[], τ, by rw [List.append_nil]; rfl, .nil, q⟩
  | _, _, acc, τ, .cons (x := x) (d := d) (xs := xs) (ds := ds) a r, hl, q, ys, h => by
    obtain ⟨τ1, e1, s1⟩ := hg x d τ _ a q
    have kt := ht x τ1 s1
    unfold lcR at h
    unfold lcL
    rw [e1]
    show ∃ es τ', ((t τ1).bind fun b τ2 => if b = true then (m τ2).bind fun e τ3 => if acc.length < 1000000 then lcL own g t m ds (acc ++ [e]) (wipeE τ3 own) else .bad else lcL own g t m ds acc (wipeE τ2 own)) = _ ∧ _
    rw [List.length_cons] at hl
    cases et : nt x with
    | ok b =>
      rw [et] at kt h
      obtain ⟨b', τ2, k1, k2, s2⟩ := kt
      subst k2
      rw [k1]
      cases b with
      | true =>
        have km := hm x τ2 s2
        show ∃ es τ', ((m τ2).bind fun e τ3 => if acc.length < 1000000 then lcL own g t m ds (acc ++ [e]) (wipeE τ3 own) else .bad) = _ ∧ _
        cases ef : nf x with
        | ok b =>
          simp only [ef] at km h
          obtain ⟨de, τ3, l1, l2, s3⟩ := km
          rw [l1]
          show ∃ es τ', (if acc.length < 1000000 then lcL own g t m ds (acc ++ [de]) (wipeE τ3 own) else .bad) = _ ∧ _
          rw [if_pos (by omega)]
          cases er : lcR nt nf xs with
          | ok bs =>
            simp only [er] at h
            cases h
            obtain ⟨es, τ', z1, z2, z3⟩ := sat_lc hg ht hm h2 h3 (acc ++ [de]) (wipeE τ3 own) r (by rw [List.length_append, List.length_cons, List.length_nil]; omega) (h3 x _ (s3.wipe own)) bs er
            exact ⟨de :: es, τ', by rw [z1, List.append_assoc]; rfl, .cons l2 z2, z3⟩
          | ex c => simp only [er] at h; cases h
          | bad => simp only [er] at h; cases h
        | ex c => simp only [ef] at h; cases h
        | bad => simp only [ef] at h; cases h
      | false =>
        exact sat_lc hg ht hm h2 h3 acc (wipeE τ2 own) r (by omega) (h2 x _ (s2.wipe own)) ys h
    | ex c => rw [et] at h; cases h
    | bad => rw [et] at h; cases h
theorem ve_lc {own : List Nat} {it : MA} {g : D → Env → Option Env} {t : MT} {m : ME} {v : N (List α)} {e : EP α} {e' : EP β} {p : α → List Slot → List Slot} {nt : α → N Bool} {nf : α → N β} {G2 G3 : α → List Slot} {w : N (List β)} (h : VI it G v e G1 X) (hg : VG g e p) (h1 : Ent (wipeG G1 own) GI) (ht : ∀ x, VT t (p x GI) (nt x) (G2 x) fun _ => True) (hm : ∀ x, VE m (G2 x) (nf x) e' (G3 x) fun _ => True) (h2 : ∀ x, Ent (wipeG (G2 x) own) GI) (h3 : ∀ x, Ent (wipeG (G3 x) own) GI)
    (hw : w = v.bind fun xs => lcN nt nf xs := by first | with_reducible rfl | simp only [N.bind_ok, N.bind_assoc] | rfl) : VE (eLc own it g t m) G w (eLi true e') GI X := fun τ s => by
  rw [hw]
  exact (h τ s).bind fun xs ds τ1 ⟨k1, s1⟩ => by
    unfold lcN
    by_cases c : xs.length ≤ 1000000
    · rw [if_pos c]
      cases er : lcR nt nf xs with
      | ok ys =>
        obtain ⟨es, τ', z1, z2, z3⟩ := sat_lc hg ht hm h2 h3 [] (wipeE τ1 own) k1 (by rw [List.length_nil]; omega) (h1 _ (s1.wipe own)) ys er
        rw [z1]
        exact ⟨.lst true es, τ', rfl, ⟨es, rfl, z2⟩, z3⟩
      | ex c =>
        exact absurd er (lcR_noex nt nf xs c)
      | bad => exact True.intro
    · rw [if_neg c]; exact True.intro
def tOk : α → N Bool := fun _ => .ok true
theorem vt_true : VT tTrue G (.ok true) G X := fun τ s => ⟨true, τ, rfl, rfl, s⟩
theorem lcN_pure {f : α → N β} {g : α → β} {xs : List α} (hl : xs.length ≤ 1000000) (h : ∀ x ∈ xs, f x = .ok (g x)) : lcN (fun _ => .ok true) f xs = .ok (xs.map g) := by
  unfold lcN
  rw [if_pos hl]
  clear hl
  induction xs with
  | nil => rfl
  | cons x xs ih =>
    unfold lcR
    rw [h x List.mem_cons_self, ih fun y hy => h y (List.mem_cons_of_mem _ hy)]
    rfl
end

/-! ### defs -/
section
variable {α β γ σ κ ρ : Type} {er : EP ρ}
theorem is_any : ∀ k : Nat, Is (List.replicate k Slot.any) (List.replicate k none)
  | 0 => rfl
  | k + 1 => ⟨none, _, rfl, True.intro, is_any k⟩
/-- the slots at a def's begin -/
inductive Ini : List Slot → List D → Prop
  | nil : Ini [] []
  | cons {α : Type} {e : EP α} {x : α} {d : D} {G : List Slot} {ds : List D} : e x d → Ini G ds → Ini (.val e x :: G) (d :: ds)
theorem Ini.is : ∀ {G : List Slot} {ds : List D} (k : Nat), Ini G ds → Is (G ++ List.replicate k Slot.any) (ds.map some ++ List.replicate k none)
  | _, _, k, .nil => is_any k
  | _, _, k, .cons a b => ⟨_, _, rfl, ⟨_, rfl, a⟩, b.is k⟩
theorem Ini.len {G : List Slot} {ds : List D} (h : Ini G ds) : ds.length = G.length := by
  induction h with
  | nil => rfl
  | cons _ _ ih => exact congrArg (· + 1) ih
abbrev XT : Env → Prop := fun _ => True
theorem satC_of {f : List D → CR} {n N : Nat} {b : MS} {G : List Slot} {ds : List D} {v : NS σ κ ρ} {G' : σ → List Slot} {L : κ → List Slot} (hf : f = callF n N b) (hi : Ini G ds) (hn : G.length = n) (h : VS b (G ++ List.replicate (N - n) Slot.any) v G' L (fun a d _ => er a d) XT) : SatC (f ds) v.f er := by
  have k := h _ (hi.is (N - n))
  rw [hf]
  unfold callF
  rw [if_pos (by rw [hi.len]; exact hn)]
  cases v with
  | rt a => obtain ⟨d, τ', e, p⟩ := k; exact ⟨d, by rw [e], p⟩
  | ex c => obtain ⟨τ', e, p⟩ := k; show _ = _; rw [e]
  | _ => exact True.intro
theorem xt {G : List Slot} : ∀ τ, Is G τ → XT τ := fun _ _ => True.intro
/-- the first slots, from a def's parameters -/
def IniL (ea : EL α) (G : α → List Slot) : Prop := ∀ p ds, ea p ds → Ini (G p) ds
theorem inil_one {e : EP α} : IniL (eOne e) fun p => [.val e p] := fun p ds ⟨d, q, h⟩ => by rw [q]; exact .cons h .nil
theorem inil_cons {e : EP α} {es : EL β} {G : β → List Slot} (h : IniL es G) : IniL (eCons e es) fun p => .val e p.1 :: G p.2 := fun p ds ⟨d, r, q, k1, k2⟩ => by rw [q]; exact .cons k1 (h _ _ k2)
/-! defs that change parameters -/
def eAp (ea : EL α) (eb : EL β) : EL (α × β) := fun p ds => ∃ xs ys, ds = xs ++ ys ∧ ea p.1 xs ∧ eb p.2 ys
def SatI (r : CR2) (v : N (ρ × α)) (er : EP ρ) (eo : EL α) : Prop := match v with
  | .ok p => ∃ d os, r = .ok d os ∧ er p.1 d ∧ eo p.2 os
  | _ => True
def VFI (f : List D → CR2) (n : α → β → N (ρ × α)) (eo : EL α) (ea : EL β) (er : EP ρ) : Prop := ∀ o a os ds, eo o os → ea a ds → SatI (f (os ++ ds)) (n o a) er eo
theorem Ini.app {G G' : List Slot} {ds es : List D} (h : Ini G ds) (k : Ini G' es) : Ini (G ++ G') (ds ++ es) := by
  induction h with
  | nil => exact k
  | cons a _ ih => exact .cons a ih
/-- what the first slots hold -/
def Outs (k : Nat) (eo : EL α) (o : α) (τ : Env) : Prop := ∃ os, outsE k τ = some os ∧ eo o os
/-- the first slots of these are o's -/
def OutG (k : Nat) (eo : EL α) (o : α) (G : List Slot) : Prop := ∀ τ, Is G τ → Outs k eo o τ
def NS.fi {κ : Type} : NS (ρ × α) κ (ρ × α) → N (ρ × α)
  | .rt r => .ok r
  | .nx o => .ok o
  | _ => .bad
/-- at the end of the body nothing is told -/
def EndI (k : Nat) (eo : EL α) (er : EP ρ) (G' : ρ × α → List Slot) : Prop := ∀ o τ, Is (G' o) τ → er o.1 .non ∧ Outs k eo o.2 τ
/-- slots lent to a call, one after the other -/
def LentTo (G : List Slot) (is : List Nat) (eo : EL α) (o : α) (G2 : List Slot) : Prop := ∀ τ, Is G τ → ∃ os τ2, takeD is τ = some (os, τ2) ∧ eo o os ∧ os.length = is.length ∧ Is G2 τ2
def BackTo (G : List Slot) (is : List Nat) (eo : EL α) (o : α) (G2 : List Slot) : Prop := ∀ τ os, Is G τ → eo o os → os.length = is.length ∧ Is G2 (putD is os τ)
def AllV (G : List Slot) (is : List Nat) : Prop := ∀ τ, Is G τ → is.all (fun i => (τ.getD i none).isSome) = true
end
end Bn

/-! Operators by plain functions. -/
namespace Bn
open PySem PySem.Spec PyProof.Rows L2

/-! ### * of any two ints that are not both great -/
def CMulA (i j : Int) : Prop := CMulW i j ∨ CMul i j
instance {i j : Int} : Decidable (CMul i j) := by unfold CMul; infer_instance
instance {i j : Int} : Decidable (CMulA i j) := by unfold CMulA; infer_instance
theorem op_mulA {X : Cx} : OpR X (binaryOp .Mult) (rI CMulA fun i j => .int (i * j)) := opI fun _ _ _ _ _ _ _ hc q => mul_int q (hc.elim (·.ok) (·.ok))
def gMulA : D → D → Option D := gIC CMulA fun i j => .int (i * j)
theorem sMulA {K : PySem.W.Frag} : OpS K (rI CMulA fun i j => .int (i * j)) gMulA := opS_IC fun _ _ _ _ => rfl

@[irreducible] def N.mul (i j : Int) : N Int := if CMulA i j then .ok (i * j) else .bad
@[irreducible] def N.div (i j : Int) : N Int := if CDivW i j then .ok (i / j) else .bad
@[irreducible] def N.divX (i j : Int) : N Int := if CDivX i j then .ok (i.fdiv j) else .bad
@[irreducible] def N.mod (i j : Int) : N Int := if 0 < j then .ok (i % j) else .bad
@[irreducible] def N.pow (i j : Int) : N Int := if CPow i j then .ok (i ^ j.toNat) else .bad
@[irreducible] def N.ix {α : Type} (xs : List α) (i : Int) : N α := N.o (atI xs i)
@[irreducible] def N.gix (d : D) (i : Int) : N D := match gIx d (.int i) with
  | some x => if isFz x = true then .ok x else .bad
  | none => .bad
@[irreducible] def N.six (z : Str) (i : Int) : N Str := if z.length ≤ 1000000 then N.o ((atI z.cps.toList i).map fun c => ⟨#[c]⟩) else .bad
@[irreducible] def N.sadd (i j : Str) : N Str := if i.length + j.length ≤ 1000000 then .ok (i ++ j) else .bad
@[irreducible] def N.slen (z : Str) : N Int := if z.length ≤ 1000000 then .ok (z.length : Nat) else .bad
@[irreducible] def N.gb (o : Option D) : N Bool := match o with
  | some (.bl b) => .ok b
  | _ => .bad
@[irreducible] def N.gi (o : Option D) : N Int := match o with
  | some (.int b) => .ok b
  | _ => .bad
@[irreducible] def N.minL : List Int → N Int
  | [] => .bad
  | m :: r => .ok (minI m r)
@[irreducible] def N.maxL : List Int → N Int
  | [] => .bad
  | m :: r => .ok (maxI m r)
@[irreducible] def N.str (i : Int) : N Str := if i.natAbs.log2 < 1920 then .ok (toString i) else .bad
@[irreducible] def N.cutS (z : Str) (lo hi : Option Int) : N Str := if z.length ≤ 1000000 then .ok (L2.cutS z lo hi) else .bad
@[irreducible] def N.sin (c z : Str) : N Bool := match c.cps.toList with
  | [k] => .ok (decide (k ∈ z.cps.toList))
  | _ => .bad
@[irreducible] def N.join (z : Str) (ys : List Str) : N Str := if (ys.map (·.length)).sum + ys.length * z.length ≤ 1000000 then .ok (Txt.join z ys) else .bad
@[irreducible] def N.cat {α : Type} (xs ys : List α) : N (List α) := if xs.length + ys.length ≤ 1000000 then .ok (xs ++ ys) else .bad
theorem N.mul_ok {i j : Int} (h : CMulA i j) : N.mul i j = .ok (i * j) := by unfold N.mul; exact if_pos h
theorem N.mul_l {i j : Int} (h : i.natAbs < 2 ^ 64) : N.mul i j = .ok (i * j) := N.mul_ok (.inr (.inl ⟨by omega, by omega⟩))
theorem N.mul_r {i j : Int} (h : j.natAbs < 2 ^ 64) : N.mul i j = .ok (i * j) := N.mul_ok (.inr (.inr ⟨by omega, by omega⟩))
theorem N.div_ok {i j : Int} (h0 : 0 < j) {b : Nat} (hb : j.natAbs < 2 ^ b) (h1 : 0 < b := by decide) (h9 : b ≤ 9000 := by decide) : N.div i j = .ok (i / j) := by unfold N.div; exact if_pos (L2.wide_div h0 hb h1 h9)
theorem N.mod_ok {i j : Int} (h : 0 < j) : N.mod i j = .ok (i % j) := by unfold N.mod; exact if_pos h
theorem N.ix_ok {α : Type} {xs : List α} {k : Nat} {x : α} (h : xs[k]? = some x) : N.ix xs (k : Int) = .ok x := by
  unfold N.ix
  rw [show atI xs (k : Int) = xs[k]? from atI_of rfl, h]; rfl
theorem N.ix_lt {α : Type} {xs : List α} {k : Nat} (h : k < xs.length) : N.ix xs (k : Int) = .ok xs[k] := N.ix_ok (List.getElem?_eq_getElem h)
section
variable {α β γ : Type} {e : EP α}
theorem o_add : Op gAdd (fun a b => .ok (a + b)) eI eI eI := fun a b d1 d2 c h1 h2 q => by cases h1; cases h2; cases q; exact ⟨_, rfl, rfl⟩
theorem o_sub : Op gSub (fun a b => .ok (a - b)) eI eI eI := fun a b d1 d2 c h1 h2 q => by cases h1; cases h2; cases q; exact ⟨_, rfl, rfl⟩
theorem o_ic {C : Int → Int → Prop} [∀ i j, Decidable (C i j)] {k : Int → Int → Int} : Op (gIC C fun i j => .int (k i j)) (fun a b => if C a b then .ok (k a b) else .bad) eI eI eI := fun a b d1 d2 c h1 h2 q => by
  cases h1; cases h2
  by_cases z : C a b
  · simp only [z, if_true] at q
    cases q
    exact ⟨_, if_pos z, rfl⟩
  · simp only [z, if_false] at q; cases q
theorem o_mul : Op gMulA N.mul eI eI eI := by unfold N.mul; exact o_ic
theorem o_div : Op gDiv N.div eI eI eI := by unfold N.div; exact o_ic
theorem o_mod : Op gMod N.mod eI eI eI := by unfold N.mod; exact o_ic
theorem o_lt : Op gLt (fun a b => .ok (decide (a < b))) eI eI eB := fun a b d1 d2 c h1 h2 q => by cases h1; cases h2; cases q; exact ⟨_, rfl, rfl⟩
theorem o_gt : Op gGt (fun a b => .ok (decide (b < a))) eI eI eB := fun a b d1 d2 c h1 h2 q => by cases h1; cases h2; cases q; exact ⟨_, rfl, rfl⟩
/-! a constant number -/
def eK (k : Int) : EP Unit := fun _ d => d = .int k
theorem vz_k {k : Int} {G : List Slot} : VZ (zC (.int k)) G (.ok ()) (eK k) := vz_c rfl
/-! == -/
theorem o_eqI : Op gEq (fun a b => .ok (decide (a = b))) eI eI eB := fun a b d1 d2 c h1 h2 q => by
  cases h1; cases h2; cases q
  refine ⟨_, vEq a b, ?_⟩
  show D.bl (a == b) = D.bl (decide (a = b))
  rfl
/-- how a typed value is written as a tree, but for what is owned -/
def Fn (e : EP α) (f : α → D) : Prop := ∀ x d, e x d → toP d = toP (f x) ∧ hasP d = hasP (f x)
theorem fn_I : Fn eI D.int := fun x d h => by cases h; exact ⟨rfl, rfl⟩
theorem fn_al {e : EP α} {f : α → D} (h : Fn e f) : ∀ {xs : List α} {ds : List D}, Al e xs ds → toPs ds = toPs (xs.map f) ∧ hasPs ds = hasPs (xs.map f)
  | _, _, .nil => ⟨rfl, rfl⟩
  | _, _, .cons a b => by
    obtain ⟨h1, h2⟩ := h _ _ a
    obtain ⟨h3, h4⟩ := fn_al h b
    constructor
    · show toP _ :: toPs _ = toP _ :: toPs _; rw [h1, h3]
    · show (hasP _ && hasPs _) = (hasP _ && hasPs _); rw [h2, h4]
theorem fn_L {m : Bool} {e : EP α} {f : α → D} (h : Fn e f) : Fn (eLi m e) fun xs => D.lst false (xs.map f) := fun x d ⟨ds, q, k⟩ => by
  obtain ⟨h3, h4⟩ := fn_al h k
  rw [q]
  exact ⟨congrArg PyData.list h3, h4⟩
def FnL (e : EL α) (f : α → List D) : Prop := ∀ x ds, e x ds → toPs ds = toPs (f x) ∧ hasPs ds = hasPs (f x)
theorem fnl_one {f : α → D} (h : Fn e f) : FnL (eOne e) fun x => [f x] := fun x ds ⟨d, q, k⟩ => by
  obtain ⟨h1, h2⟩ := h _ _ k
  rw [q]
  constructor
  · show toP _ :: [] = toP _ :: []; rw [h1]
  · show (hasP _ && true) = (hasP _ && true); rw [h2]
theorem fnl_cons {es : EL β} {f : α → D} {g : β → List D} (h : Fn e f) (h' : FnL es g) : FnL (eCons e es) fun x => f x.1 :: g x.2 := fun x ds ⟨d, r, q, k, k'⟩ => by
  obtain ⟨h1, h2⟩ := h _ _ k
  obtain ⟨h3, h4⟩ := h' _ _ k'
  rw [q]
  constructor
  · show toP _ :: toPs _ = toP _ :: toPs _; rw [h1, h3]
  · show (hasP _ && hasPs _) = (hasP _ && hasPs _); rw [h2, h4]
theorem fn_T {es : EL α} {g : α → List D} (h : FnL es g) : Fn (eTu es) fun x => D.tup (g x) := fun x d ⟨ds, q, k⟩ => by
  obtain ⟨h3, h4⟩ := h _ _ k
  rw [q]
  exact ⟨congrArg PyData.tuple h3, h4⟩
theorem gEq_of {d1 d2 a b : D} (h1 : toP d1 = toP a ∧ hasP d1 = hasP a) (h2 : toP d2 = toP b ∧ hasP d2 = hasP b) : gEq d1 d2 = gEq a b ∧ gNe d1 d2 = gNe a b := by
  unfold gEq gNe okP eqP
  rw [h1.1, h1.2, h2.1, h2.2]
  exact ⟨rfl, rfl⟩
theorem N.gb_ok {o : Option D} {b : Bool} (h : N.gb o = .ok b) : o = some (.bl b) := by
  unfold N.gb at h
  split at h
  · cases h; rfl
  · cases h
theorem o_eq {e' : EP β} {f : α → D} {g : β → D} (h : Fn e f) (h' : Fn e' g) : Op gEq (fun a b => N.gb (gEq (f a) (g b))) e e' eB := fun a b d1 d2 c k1 k2 q => by
  refine ⟨.bl c, ?_, rfl⟩
  rw [(gEq_of (h _ _ k1) (h' _ _ k2)).1]
  exact N.gb_ok q
theorem o_ne {e' : EP β} {f : α → D} {g : β → D} (h : Fn e f) (h' : Fn e' g) : Op gNe (fun a b => N.gb (gNe (f a) (g b))) e e' eB := fun a b d1 d2 c k1 k2 q => by
  refine ⟨.bl c, ?_, rfl⟩
  rw [(gEq_of (h _ _ k1) (h' _ _ k2)).2]
  exact N.gb_ok q
/-! subscripts -/
theorem atI_al {xs : List α} {ds : List D} (h : Al e xs ds) {i : Int} {x : α} (q : atI xs i = some x) : ∃ d, atI ds i = some d ∧ e x d := by
  unfold atI at q ⊢
  obtain ⟨j, e1, q⟩ := bind_some q
  rw [h.length, e1]
  exact h.get j q
theorem N.o_ok {o : Option α} {x : α} (h : N.o o = .ok x) : o = some x := by
  cases o with
  | none => cases h
  | some y => cases h; rfl
theorem o_ix {m : Bool} : Op gIx N.ix (eLi m e) eI e := fun xs i d1 d2 c ⟨ds, h1, h2⟩ h3 q => by
  cases h3; subst h1
  exact atI_al h2 (N.o_ok (by unfold N.ix at q; exact q))
theorem o_ixC : Op gIx N.ix eCn eI eI := fun xs i d1 d2 c h1 h3 q => by
  cases h3; cases h1
  exact atI_al (al_ints xs) (N.o_ok (by unfold N.ix at q; exact q))
/-- the k-th part -/
def Pt (es : EL α) (k : Nat) (e : EP β) (p : α → β) : Prop := ∀ x ds, es x ds → ∃ d, ds[k]? = some d ∧ e (p x) d
theorem pt_1 : Pt (eOne e) 0 e fun x => x := fun x ds ⟨d, q, k⟩ => by rw [q]; exact ⟨d, rfl, k⟩
theorem pt_0 {es : EL β} : Pt (eCons e es) 0 e fun x => x.1 := fun x ds ⟨d, r, q, k, _⟩ => by rw [q]; exact ⟨d, rfl, k⟩
theorem pt_s {es : EL β} {n : Nat} {e' : EP γ} {p : β → γ} (h : Pt es n e' p) : Pt (eCons e es) (n + 1) e' fun x => p x.2 := fun x ds ⟨d, r, q, _, k⟩ => by
  obtain ⟨d', h1, h2⟩ := h _ _ k
  rw [q]; exact ⟨d', h1, h2⟩
theorem o_ixT {es : EL α} {k : Nat} {e' : EP β} {p : α → β} (h : Pt es k e' p) : Op gIx (fun a _ => .ok (p a)) (eTu es) (eK k) e' := fun x _ d1 d2 c ⟨ds, h1, h2⟩ h3 q => by
  cases h3; subst h1; cases q
  obtain ⟨d, k1, k2⟩ := h _ _ h2
  refine ⟨d, ?_, k2⟩
  show atI ds (k : Int) = _
  rw [show atI ds (k : Int) = ds[k]? from atI_of rfl]; exact k1
/-! builtins -/
theorem c_len {m : Bool} : Cl gLen (fun xs => .ok (xs.length : Int)) (eOne (eLi m e)) eI := fun x ds c ⟨d, q, es, q2, k⟩ h => by
  subst q; subst q2; cases h
  refine ⟨_, vLenL m es, ?_⟩
  rw [k.length]; rfl
theorem c_lenC : Cl gLen (fun xs => .ok (xs.length : Int)) (eOne eCn) eI := fun x ds c ⟨d, q, q2⟩ h => by
  subst q; cases (show d = _ from q2); cases h
  refine ⟨_, vLenC _, ?_⟩
  rw [List.length_map]; rfl
theorem c_any {m : Bool} : Cl gAny (fun xs => .ok (xs.any id)) (eOne (eLi m eB)) eB := fun x ds c ⟨d, q, es, q2, k⟩ h => by
  subst q; subst q2; rw [k.bools]; cases h
  exact ⟨_, vAny (bools_map x), rfl⟩
/-! isinstance -/
def eTy (t : String) : EP Unit := fun _ d => d = .ty t
def Ty (e : EP α) (t : String) : Prop := ∀ x d, e x d → tyOfD d = some t
/-! is None -/
def Nn (e : EP α) : Prop := ∀ x d, e x d → isNonD d = false
/-! in -/
/-- in among things that are no lists: by their trees -/
def Fx (e : EP α) (f : α → D) : Prop := ∀ x d, e x d → d = f x
theorem fx_I : Fx eI D.int := fun x d h => h
theorem fx_al {f : α → D} (h : Fx e f) : ∀ {xs : List α} {ds : List D}, Al e xs ds → ds = xs.map f
  | _, _, .nil => rfl
  | _, _, .cons a b => by rw [h _ _ a, fx_al h b]; rfl
theorem fx_L {m : Bool} {f : α → D} (h : Fx e f) : Fx (eLi m e) fun xs => D.lst m (xs.map f) := fun x d ⟨ds, q, k⟩ => by rw [q, fx_al h k]
def FxL (e : EL α) (f : α → List D) : Prop := ∀ x ds, e x ds → ds = f x
theorem fxl_one {f : α → D} (h : Fx e f) : FxL (eOne e) fun x => [f x] := fun x ds ⟨d, q, k⟩ => by rw [q, h _ _ k]
theorem fxl_cons {es : EL β} {f : α → D} {g : β → List D} (h : Fx e f) (h' : FxL es g) : FxL (eCons e es) fun x => f x.1 :: g x.2 := fun x ds ⟨d, r, q, k, k'⟩ => by rw [q, h _ _ k, h' _ _ k']
theorem fx_T {es : EL α} {g : α → List D} (h : FxL es g) : Fx (eTu es) fun x => D.tup (g x) := fun x d ⟨ds, q, k⟩ => by rw [q, h _ _ k]
theorem o_in {e' : EP β} {f : α → D} {g : β → D} {neg : Bool} (h : Fx e f) (h' : Fx e' g) : Op (gIn neg) (fun a b => N.gb (gIn neg (f a) (g b))) e e' eB := fun a b d1 d2 c k1 k2 q => by
  rw [h _ _ k1, h' _ _ k2]
  exact ⟨_, N.gb_ok q, rfl⟩
/-! texts and slices -/
section
variable {G G1 G2 G3 G4 : List Slot} {X : Env → Prop}
theorem vp_none : VP pNone G (.ok none) G X := fun τ s => ⟨none, τ, rfl, rfl, s⟩
theorem vp_some {m : ME} {v : N Int} {w : N (Option Int)} (h : VE m G v eI G1 X) (hw : w = v.bind fun i => .ok (some i) := by first | with_reducible rfl | simp only [N.bind_ok, N.bind_assoc] | rfl) : VP (pSome m) G w G1 X := fun τ s => by
  rw [hw]
  exact (h τ s).bind fun i d τ1 ⟨k1, s1⟩ => by cases (show d = .int i from k1); exact ⟨some i, τ1, rfl, rfl, s1⟩
theorem Al.cut {xs : List α} {ds : List D} (h : Al e xs ds) (lo hi : Option Int) : Al e (cutL xs lo hi) (cutL ds lo hi) := by
  unfold cutL
  rw [h.length]
  exact (h.drop _).take _
theorem ve_slice {f : D → Option Int → Option Int → Option D} {F : α → Option Int → Option Int → N β} {m : ME} {p r : Env → R (Option Int)} {v : N α} {lo hi : N (Option Int)} {w : N β} {e e1 : EP α} {e' : EP β} (h : VE m G v e G1 X) (z : Fz e e1) (hp : VP p G1 lo G2 X) (hr : VP r G2 hi G3 X) (hf : ∀ a d l u b, e1 a d → F a l u = .ok b → ∃ d', f d l u = some d' ∧ e' b d') (nx : ∀ a l u c, F a l u ≠ .ex c)
    (hw : w = v.bind fun a => lo.bind fun l => hi.bind fun u => F a l u := by first | with_reducible rfl | simp only [N.bind_ok, N.bind_assoc] | rfl) : VE (eSlice f m p r) G w e' G3 X := fun τ s => by
  rw [hw]
  exact (h τ s).bind fun a d τ1 ⟨k1, s1⟩ => (hp τ1 s1).bind fun l l' τ2 ⟨k2, s2⟩ => (hr τ2 s2).bind fun u u' τ3 ⟨k3, s3⟩ => by
    subst k2; subst k3
    cases ef : F a l u with
    | ok b =>
      obtain ⟨d', q1, q2⟩ := hf a (freeze d) l u b (z _ _ k1) ef
      rw [q1]
      exact ⟨d', τ3, rfl, q2, s3⟩
    | ex c => exact absurd ef (nx a l u c)
    | bad => exact True.intro
theorem sl_L : ∀ (a : List α) d l u b, eLi false e a d → N.ok (cutL a l u) = N.ok b → ∃ d', cutLd d l u = some d' ∧ eLi true e b d' := fun a d l u b ⟨ds, h1, h2⟩ q => by
  subst h1; cases q
  exact ⟨_, rfl, _, rfl, h2.cut l u⟩
theorem sl_C : ∀ (a : List Int) d l u b, eCn a d → N.ok (cutL a l u) = N.ok b → ∃ d', cutLd d l u = some d' ∧ eLi true eI b d' := fun a d l u b h1 q => by
  cases h1; cases q
  exact ⟨_, rfl, _, rfl, (al_ints a).cut l u⟩
theorem ve_lstOf {m : MA} {v : N (List α)} {b : Bool} {e e' : EP α} (h : VA m G v (eOne (eLi b e)) G1 X) (z : Fz (eLi b e) (eLi false e')) : VE (eLstOf m) G v (eLi true e') G1 X := fun τ s => by
  have : v = v.bind N.ok := by cases v <;> rfl
  rw [this]
  exact (h τ s).bind fun xs ds τ1 ⟨⟨d, e1, e2⟩, s1⟩ => by
    obtain ⟨es, k2, k3⟩ := z _ _ e2
    subst e1
    refine ⟨.lst true es, τ1, ?_, ⟨es, rfl, k3⟩, s1⟩
    show (match freezeL [d] with | [.lst _ es] => R.ok (D.lst true es) τ1 | [.tup es] => R.ok (D.lst true es) τ1 | _ => .bad) = _
    rw [show freezeL [d] = [freeze d] from rfl, k2]
theorem ve_cat {a b : ME} {v w u : N (List α)} {b1 b2 : Bool} {e1 e2 e' : EP α} (h : VE a G v (eLi b1 e1) G1 X) (k : VE b G1 w (eLi b2 e2) G2 X) (z : Fz (eLi b1 e1) (eLi false e')) (z' : Fz (eLi b2 e2) (eLi false e')) (hu : u = v.bind fun xs => w.bind fun ys => N.cat xs ys := by first | with_reducible rfl | simp only [N.bind_ok, N.bind_assoc] | rfl) : VE (eCat a b) G u (eLi true e') G2 X := fun τ s => by
  rw [hu]
  exact (h τ s).bind fun xs d τ1 ⟨k1, s1⟩ => (k τ1 s1).bind fun ys d' τ2 ⟨k2, s2⟩ => by
    obtain ⟨es, q1, q2⟩ := z _ _ k1
    obtain ⟨fs, q3, q4⟩ := z' _ _ k2
    show Sat (slE' (catD (freeze d) (freeze d')) τ2) _ _ _
    rw [q1, q3]
    unfold N.cat
    by_cases c : xs.length + ys.length ≤ 1000000
    · rw [if_pos c, vCat (by rw [q2.length, q4.length]; exact c)]
      exact ⟨_, τ2, rfl, ⟨_, rfl, q2.append q4⟩, s2⟩
    · rw [if_neg c]; exact True.intro
theorem ve_sorted {m : MA} {v w : N (List Int)} {b : Bool} (h : VA m G v (eOne (eLi b eI)) G1 X) (hw : w = v.bind fun xs => .ok (sortI xs) := by first | with_reducible rfl | simp only [N.bind_ok, N.bind_assoc] | rfl) : VE (eSorted m) G w (eLi true eI) G1 X := fun τ s => by
  rw [hw]
  exact (h τ s).bind fun xs ds τ1 ⟨⟨d, e1, e2⟩, s1⟩ => by
    have z : Fz (eLi b eI) (eLi false eI) := by
      cases b with
      | true => exact fz_L (fz_z zf_I)
      | false => exact fz_z zf_L
    obtain ⟨es, k2, k3⟩ := z _ _ e2
    subst e1
    refine ⟨.lst true ((sortI xs).map D.int), τ1, ?_, ⟨_, rfl, al_ints _⟩, s1⟩
    show (match freezeL [d] with | [.lst _ es] => (match intsOf es with | some ns => R.ok (D.lst true ((sortI ns).map D.int)) τ1 | none => .bad) | _ => .bad) = _
    rw [show freezeL [d] = [freeze d] from rfl, k2, k3.ints]
    show (match intsOf (xs.map D.int) with | some ns => R.ok (D.lst true ((sortI ns).map D.int)) τ1 | none => .bad) = _
    rw [ints_map]
end
/-! none of them raises -/
theorem nx_p2 {f : α → β → γ} : Nx2 (fun a b => .ok (f a b)) := fun _ _ _ h => by cases h
theorem nx_p1 {f : α → γ} : Nx1 (fun a => .ok (f a)) := fun _ _ h => by cases h
theorem nx_o {o : Option α} {c : Str} : N.o o ≠ .ex c := fun h => by cases o <;> cases h
theorem nx_gb {o : Option D} {c : Str} : N.gb o ≠ .ex c := fun h => by unfold N.gb at h; split at h <;> cases h
theorem nx_mul : Nx2 N.mul := fun _ _ _ h => by unfold N.mul at h; split at h <;> cases h
theorem nx_div : Nx2 N.div := fun _ _ _ h => by unfold N.div at h; split at h <;> cases h
theorem nx_mod : Nx2 N.mod := fun _ _ _ h => by unfold N.mod at h; split at h <;> cases h
theorem nx_ix : Nx2 (N.ix (α := α)) := fun _ _ _ h => by unfold N.ix at h; exact nx_o h
theorem nx_gb2 {f : α → β → Option D} : Nx2 (fun a b => N.gb (f a b)) := fun _ _ _ h => nx_gb h
/-! definite forms of loops -/
section
variable {σ κ ρ : Type}
theorem forN_cons {b : α → σ → NS σ σ ρ} {x : α} {xs : List α} {s : σ} : (forN b (x :: xs) s : NS σ κ ρ) = (match b x s with
    | .nx s' => forN b xs s' | .ct s' => forN b xs s' | .bk s' => .nx s' | .rt r => .rt r | .ex c => .ex c | .bad => .bad) := rfl
theorem forN_nx {b : α → σ → NS σ σ ρ} {x : α} {xs : List α} {s s' : σ} (h : b x s = .nx s') : (forN b (x :: xs) s : NS σ κ ρ) = forN b xs s' := by rw [forN_cons, h]
theorem forN_ct {b : α → σ → NS σ σ ρ} {x : α} {xs : List α} {s s' : σ} (h : b x s = .ct s') : (forN b (x :: xs) s : NS σ κ ρ) = forN b xs s' := by rw [forN_cons, h]
theorem forN_rt {b : α → σ → NS σ σ ρ} {x : α} {xs : List α} {s : σ} {r : ρ} (h : b x s = .rt r) : (forN b (x :: xs) s : NS σ κ ρ) = .rt r := by rw [forN_cons, h]
/-- a loop that only goes on: an invariant over what was walked -/
theorem forN_inv {b : α → σ → NS σ σ ρ} (P : List α → σ → Prop) : ∀ {xs pre : List α} {s : σ}, P pre s → (∀ pre x s, P pre s → x ∈ xs → ∃ s', (b x s = .nx s' ∨ b x s = .ct s') ∧ P (pre ++ [x]) s') → ∃ s', (forN b xs s : NS σ κ ρ) = .nx s' ∧ P (pre ++ xs) s'
  | [], pre, s, h, _ => ⟨s, rfl, by rw [List.append_nil]; exact h⟩
  | x :: xs, pre, s, h, hb => by
    obtain ⟨s', h1, h2⟩ := hb pre x s h List.mem_cons_self
    obtain ⟨s2, h3, h4⟩ := forN_inv P (xs := xs) h2 fun pre y s q hy => hb pre y s q (List.mem_cons_of_mem _ hy)
    refine ⟨s2, ?_, by rw [List.append_assoc] at h4; exact h4⟩
    rcases h1 with h1 | h1
    · rw [forN_nx h1]; exact h3
    · rw [forN_ct h1]; exact h3
/-! what is given, and what is known of it -/
def N.gv (v : N α) (Q : α → Prop) : Prop := ∃ y, v = .ok y ∧ Q y
def NS.gv (n : NS σ κ ρ) (Qn : σ → Prop) (Qr : ρ → Prop) : Prop := (∃ s, n = .nx s ∧ Qn s) ∨ ∃ r, n = .rt r ∧ Qr r
/-- one turn of a loop -/
def turn (n : NS σ σ ρ) (P : σ → Prop) (Qb : σ → Prop) (Qr : ρ → Prop) : Prop := match n with
  | .nx s => P s
  | .ct s => P s
  | .bk s => Qb s
  | .rt r => Qr r
  | _ => False
end
end
end Bn

/-! Expressions that change what names hold, by plain functions. -/
namespace Bn
open PySem PySem.Spec PyProof.Rows L2
section
variable {α β γ S S' : Type} {G G1 G2 : List Slot} {X : Env → Prop}
def VEs {α S : Type} (m : ME) (G : List Slot) (v : N (α × S)) (e : EP α) (GS : S → List Slot) (X : Env → Prop) : Prop := ∀ τ, Is G τ → Sat (m τ) v (fun a d τ' => e a.1 d ∧ Is (GS a.2) τ') X
def VAs {α S : Type} (m : MA) (G : List Slot) (v : N (α × S)) (e : EL α) (GS : S → List Slot) (X : Env → Prop) : Prop := ∀ τ, Is G τ → Sat (m τ) v (fun a d τ' => e a.1 d ∧ Is (GS a.2) τ') X
section
variable {σ κ ρ : Type} {G' : σ → List Slot} {L : κ → List Slot} {er : ρ → D → Env → Prop}
end
end
end Bn

namespace PySem
section
variable {prog : Program} {w : World} {A : Around} {E : Value → Shared → Prop} {s : Shared} {l : Addr} {xs : Array (Int × Tok)}
end
end PySem
/-! Texts and refusals by plain functions; what is known of a def by other means. -/
namespace Bn
open PySem PySem.Spec PyProof.Rows L2
/-! ### a tuple's first part, a name that the others change -/
def aLate (i : Nat) (m : MA) : MA := fun τ => match τ.getD i none with
  | none => .bad
  | some _ => (m τ).bind fun es τ1 => match τ1.getD i none with
    | some d => .ok (d :: es) (τ1.set i none)
    | none => .bad
section
variable {X : Cx} {B : Bx} {W : WX}
end
@[irreducible] def N.split (z y : Str) : N (List Str) := if y.length ≠ 0 ∧ z.length ≤ 1000000 then .ok (Txt.split z y) else .bad
@[irreducible] def N.int (z : Str) : N Int := if z.length ≤ 640 then N.o (intText? z) else .bad
section
variable {α β γ : Type} {G G1 G2 : List Slot} {X : Env → Prop}
/-- a tuple of things of one kind, as a list -/
def Hom (es : EL α) (e : EP β) (f : α → List β) : Prop := ∀ x ds, es x ds → Al e (f x) ds
/-! ### refusals -/
def NS.tr {σ κ ρ : Type} (b : NS σ κ ρ) (sub : Str → Option Bool) (su : Str → NS σ κ ρ) : NS σ κ ρ := match b with
  | .ex c => (match sub c with
    | some true => (match su c with
      | .ex _ => .bad
      | r => r)
    | some false => .ex c
    | none => .bad)
  | r => r
section
variable {σ σ' κ ρ : Type} {G' : σ → List Slot} {L : κ → List Slot} {er : ρ → D → Env → Prop}
end
/-! ### defs that are known by other means -/
/-- no two values stand for one tree -/
def Ij (e : EP α) : Prop := ∀ x y d, e x d → e y d → x = y
def IjL (e : EL α) : Prop := ∀ x y d, e x d → e y d → x = y
theorem ij_I : Ij eI := fun x y d h k => by cases h; cases k; rfl
theorem ij_al {e : EP α} (z : Ij e) : ∀ {xs ys : List α} {ds : List D}, Al e xs ds → Al e ys ds → xs = ys
  | _, _, _, .nil, .nil => rfl
  | _, _, _, .cons a b, .cons a' b' => by rw [z _ _ _ a a', ij_al z b b']
theorem ij_L {m : Bool} {e : EP α} (z : Ij e) : Ij (eLi m e) := fun x y d ⟨ds, h1, h2⟩ ⟨es, k1, k2⟩ => by
  subst h1; cases k1; exact ij_al z h2 k2
theorem ijl_one {e : EP α} (z : Ij e) : IjL (eOne e) := fun x y ds ⟨d, h1, h2⟩ ⟨d', k1, k2⟩ => by
  subst h1; cases k1; exact z _ _ _ h2 k2
theorem ijl_cons {e : EP α} {es : EL β} (z : Ij e) (z' : IjL es) : IjL (eCons e es) := fun x y ds ⟨d, r, h1, h2, h3⟩ ⟨d', r', k1, k2, k3⟩ => by
  subst h1; cases k1
  obtain ⟨a, b⟩ := x
  obtain ⟨a', b'⟩ := y
  rw [show a = a' from z _ _ _ h2 k2, show b = b' from z' _ _ _ h3 k3]
theorem ij_T {es : EL α} (z : IjL es) : Ij (eTu es) := fun x y d ⟨ds, h1, h2⟩ ⟨es, k1, k2⟩ => by
  subst h1; cases k1; exact z _ _ _ h2 k2
/-- a typed value out of a tree -/
noncomputable def N.cast (e : EP α) (d : D) : N α := open Classical in if h : ∃ x, e x d then .ok h.choose else .bad
theorem N.cast_ok {e : EP α} {d : D} {x : α} (z : Ij e) (h : e x d) : N.cast e d = .ok x := by
  unfold N.cast
  have q : ∃ x, e x d := ⟨x, h⟩
  rw [dif_pos q]
  exact congrArg N.ok (z _ _ _ q.choose_spec h)
theorem N.cast_spec {e : EP α} {d : D} {x : α} (h : N.cast e d = .ok x) : e x d := by
  unfold N.cast at h
  split at h
  · rename_i q; cases h; exact q.choose_spec
  · cases h
theorem nx_cast {e : EP α} : Nx1 (N.cast e) := fun d c h => by
  unfold N.cast at h
  split at h <;> cases h
/-- what a mirror tells, as a typed value -/
noncomputable def nOf (f : List D → CR) (g : α → List D) (er : EP γ) (a : α) : N γ := match f (g a) with
  | .ok d => N.cast er d
  | .ex c => .ex c
  | .bad => .bad
theorem vf_nOf {f : List D → CR} {g : α → List D} {ea : EL α} {er : EP γ} (h : FxL ea g) : VF f (nOf f g er) ea er := fun a ds k => by
  have e := h a ds k
  subst e
  unfold nOf
  cases q : f (g a) with
  | ok d =>
    show SatC (.ok d) (N.cast er d) er
    cases en : N.cast er d with
    | ok x => exact ⟨d, rfl, N.cast_spec en⟩
    | ex c => exact absurd en (nx_cast d c)
    | bad => exact True.intro
  | ex c => exact rfl
  | bad => exact True.intro
theorem nOf_ok {f : List D → CR} {g : α → List D} {er : EP γ} {a : α} {d : D} {x : γ} (z : Ij er) (h : f (g a) = .ok d) (q : er x d) : nOf f g er a = .ok x := by
  unfold nOf
  rw [h]
  exact N.cast_ok z q
/-- what a mirror does, from what a typed function tells -/
theorem VF.ok {f : List D → CR} {n : α → N γ} {ea : EL α} {er : EP γ} (h : VF f n ea er) {a : α} {ds : List D} {b : γ} (k : ea a ds) (q : n a = .ok b) : ∃ d, f ds = .ok d ∧ er b d := by
  have := h a ds k
  rw [q] at this
  exact this
end
/-! ### a tuple that owns its parts is taken apart by two slices -/
def sSp2 (i n k : Nat) (g1 g2 : D → Env → Option Env) : MS := fun τ => match τ.getD i none with
  | some (.tpo es) => if es.length = n then (match g1 (.tpo (es.take k)) (τ.set i none) with
    | some τ1 => (match g2 (.tpo (es.drop k)) τ1 with
      | some τ2 => .nx τ2
      | none => .bad)
    | none => .bad) else .bad
  | _ => .bad
section
variable {X : Cx} {B : Bx} {W : WX}
end
/-! the same by plain functions -/
def eTo {α : Type} (es : EL α) : EP α := fun x d => ∃ ds, d = .tpo ds ∧ es x ds
section
variable {α β γ S σ κ ρ : Type} {G G1 : List Slot} {X : Env → Prop} {G' : σ → List Slot} {L : κ → List Slot} {er : ρ → D → Env → Prop}
end
/-! ### the sum of a tuple of ints -/
def rSumT (K : PySem.W.Frag) : List V → Hp → VK → Prop := fun vs H Q => ∃ (a : Addr) (ns : List Int), vs = [V.ref a] ∧ SqT K H a (ns.map V.int) ∧ Q (.int ns.sum) H
def gSumT : List D → Option D
  | [.tup es] => match intsOf es with
    | some ns => some (.int ns.sum)
    | _ => none
  | _ => none
section
variable {α : Type} {G G1 : List Slot} {X : Env → Prop}
theorem ve_lstRev {m : ME} {v w : N (List α)} {b : Bool} {e e' : EP α} (h : VE m G v (eLi b e) G1 X) (z : Fz (eLi b e) (eLi false e')) (hw : w = v.bind fun xs => .ok xs.reverse := by first | with_reducible rfl | simp only [N.bind_ok, N.bind_assoc] | rfl) : VE (eLstRev m) G w (eLi true e') G1 X := fun τ s => by
  rw [hw]
  exact (h τ s).bind fun xs d τ1 ⟨e2, s1⟩ => by
    obtain ⟨es, k2, k3⟩ := z _ _ e2
    refine ⟨.lst true es.reverse, τ1, ?_, ⟨_, rfl, k3.rev⟩, s1⟩
    show (match freeze d with | .lst _ es => R.ok (D.lst true es.reverse) τ1 | _ => .bad) = _
    rw [k2]
end
/-! ### parts of a tuple that owns them -/
end Bn

/-! sorted, of data. -/
namespace Bn
open PySem PySem.Spec PyProof.Rows L2 PySem.W
abbrev zTo : D × V → PyData := fun z => toP z.1
def rSortedD (K : PySem.W.Frag) : List V → Hp → VK → Prop := fun vs H Q => ∃ (a : Addr) (zs : List (D × V)), vs = [V.ref a] ∧ SqL K H a (zs.map Prod.snd) ∧ (∀ z ∈ zs, Dp K H z.2 (toP z.1)) ∧
  AllAlike (zs.map zTo) ∧ Sortable (zs.map zTo) ∧ (∀ z ∈ zs, (toP z.1).depth ≤ 60) ∧ ∀ p, H p = none → Q (.ref p) (upd H p (.lst ((zs.mergeSort (dataLe false zTo)).map Prod.snd)))
section
variable {X : Cx}
theorem eachIs_vals : ∀ {zs : List (D × V)} {vs : List Value}, Vals (zs.map Prod.snd) vs → EachIs (fun v z => RelV z.2 v) vs zs
  | [], _, .nil => .nil
  | _ :: _, _, .cons r t => .cons r (eachIs_vals t)
theorem vals_eachIs : ∀ {zs : List (D × V)} {vs : List Value}, EachIs (fun v z => RelV z.2 v) vs zs → Vals (zs.map Prod.snd) vs
  | _, _, .nil => .nil
  | _, _, .cons r t => .cons r (vals_eachIs t)
theorem eachIs_reads {pins : List (Addr × Obj)} {σ : L2.St} {H : Hp} {s : Shared} (I : Inv X pins σ H s) : ∀ {zs : List (D × V)} {vs : List Value}, Vals (zs.map Prod.snd) vs → (∀ z ∈ zs, Dp X.K H z.2 (toP z.1)) → EachIs (fun v z => ∃ as, Reads s.heap v (zTo z) as) vs zs
  | [], _, .nil, _ => .nil
  | z :: _, _, .cons r t, h => .cons (Dp.reads I _ _ _ (h z List.mem_cons_self) r) (eachIs_reads I t fun y hy => h y (List.mem_cons_of_mem _ hy))
theorem cr_sortedD (hu : X.A.units + 65 < cLine) : CallR X (.builtin "sorted") (rSortedD X.K) := by
  intro pins s σ H vs us Q I r h
  obtain ⟨a, zs, rfl, hs, hd, hal, hso, hdp, q⟩ := h
  obtain ⟨its, rv, hl, hz⟩ := I.list hs
  rw [Vals.ref1 r]
  refine sorted_data (enc := zTo) hl.isList (eachIs_vals rv) (eachIs_reads I rv hd) hal hso (by rw [List.length_map] at hz; exact hz) (fun z hzz => by have := hdp z hzz; show X.A.units + 2 + (toP z.1).depth < cLine; omega) fun out ho he => ?_
  obtain ⟨ep, he'⟩ := PyProof.Rows.sortedAll_at s.heap its out.toArray
  have hlen : ((zs.mergeSort (dataLe false zTo)).map Prod.snd).length ≤ sizeLine := by
    rw [List.length_map, List.length_mergeSort]
    rw [List.length_map] at hz
    exact hz
  exact ⟨.ref _, upd H (s.heap.objs.size + 1) (.lst ((zs.mergeSort (dataLe false zTo)).map Prod.snd)), I.laid (t' := s.toks) (fun _ _ => PyProof.Rows.sortedAll_old) (Nat.le_succ _) ⟨hlen, out, ep, vals_eachIs he, he'⟩, rfl, q _ (I.hok.fresh (Nat.le_succ _))⟩
end
def isT1 : PyData → Bool
  | .tuple (_ :: _) => true
  | _ => false
def notTN : PyData → Bool
  | .tuple _ => false
  | .none => false
  | _ => true
def sortOk (ps : List PyData) : Bool := (ps.all fun d => ps.all fun d' => alike d d') && (ps.all isT1 || ps.all notTN) && ps.all fun d => decide (d.depth ≤ 60)
def eSortedD (m : MA) : ME := fun τ => (m τ).bind fun ds τ1 => match freezeL ds with
  | [.lst _ es] => if (es.all okP && sortOk (toPs es)) = true then .ok (.lst true (es.mergeSort (dataLe false toP))) τ1 else .bad
  | _ => .bad
theorem toPs_map : ∀ es : List D, toPs es = es.map toP
  | [] => rfl
  | e :: es => congrArg (toP e :: ·) (toPs_map es)
theorem repL_zip {K : PySem.W.Frag} {ca : Str → Addr} {F : Hp} : ∀ {es : List D} {us : List V}, RepL K ca F es us → ∀ z ∈ es.zip us, Rep K ca F z.1 z.2
  | [], _, h, z, hz => by simp at hz
  | d :: es, _, ⟨v, r, e, h1, h2⟩, z, hz => by
    subst e
    rw [List.zip_cons_cons] at hz
    rcases List.mem_cons.mp hz with rfl | hz
    · exact h1
    · exact repL_zip h2 z hz
theorem zip_repL {K : PySem.W.Frag} {ca : Str → Addr} {F : Hp} : ∀ {zs : List (D × V)}, (∀ z ∈ zs, Rep K ca F z.1 z.2) → RepL K ca F (zs.map Prod.fst) (zs.map Prod.snd)
  | [], _ => rfl
  | z :: zs, h => ⟨z.2, zs.map Prod.snd, rfl, h z List.mem_cons_self, zip_repL fun y hy => h y (List.mem_cons_of_mem _ hy)⟩
theorem sortOk_parts {ps : List PyData} (h : sortOk ps = true) : AllAlike ps ∧ Sortable ps ∧ ∀ d ∈ ps, d.depth ≤ 60 := by
  unfold sortOk at h
  rw [Bool.and_eq_true, Bool.and_eq_true, Bool.or_eq_true, List.all_eq_true, List.all_eq_true, List.all_eq_true, List.all_eq_true] at h
  obtain ⟨⟨h1, h2⟩, h3⟩ := h
  refine ⟨fun d hd d' hd' => List.all_eq_true.mp (h1 d hd) d' hd', h2.imp (fun h d hd => ?_) (fun h d hd => ?_), fun d hd => of_decide_eq_true (h3 d hd)⟩
  · have := h d hd
    match d, this with
    | .tuple (x :: r), _ => exact ⟨x, r, rfl⟩
  · have := h d hd
    refine ⟨fun e => ?_, fun xs e => ?_⟩ <;> subst e <;> cases this
section
variable {X : Cx} {B : Bx} {W : WX}
theorem e_sortedD {k : Nat} (hr : Room k X.A) {x : Str} {p pos : Pos} {e : Expr} {m : MA} (hg : Gl X x) (hm : X.mg x = none) (hv : bootBuiltins x = some (.builtin "sorted")) (ha : PA X [e] (rdA X.K B W m)) (hn : x ≠ "__name__" := by decide) (hdb : (x == ("__debug__" : Str)) = false := by decide)
    (he : starEach [e] X.env = (false, eval e X.env) :: starEach [] X.env := by rfl) (hpl : (backTo pos (starEach [] X.env)).any (·.1) = false := by rfl) : PE X (.Call (.Name x p) [e] [] pos) (rdE X.K B W (eSortedD m)) := PE.imp (pe_callB (cr_sortedD (units65 hr)) hg hm hv ha hn hdb he hpl) fun σ H Q ⟨F, τ, vs, ds, s, p⟩ => by
  refine ⟨F, τ, vs, ds, s, post_imp (post_bind p) (fun es τ1 q us F1 H1 hl s1 => ?_) fun _ _ q => q⟩
  obtain ⟨F2, sm, rl, s2⟩ := s1.freeze hl
  match h : freezeL es, q, rl with
  | [.lst b xs], q, rl =>
    obtain ⟨v, r, rfl, r1, r2⟩ := rl
    cases (show r = [] from r2)
    cases b with
    | true => exact r1.elim
    | false =>
      obtain ⟨a, ws, rfl, h1, h2⟩ := r1
      replace q : post _ _ (if (xs.all okP && sortOk (toPs xs)) = true then R.ok (D.lst true (xs.mergeSort (dataLe false toP))) τ1 else R.bad) := q
      by_cases c : (xs.all okP && sortOk (toPs xs)) = true
      · rw [if_pos c] at q
        rw [Bool.and_eq_true, List.all_eq_true] at c
        obtain ⟨c1, c2⟩ := c
        have hlen : ws.length = xs.length := h2.length
        have ez1 : (xs.zip ws).map Prod.fst = xs := List.map_fst_zip (by omega)
        have ez2 : (xs.zip ws).map Prod.snd = ws := List.map_snd_zip (by omega)
        have et : (xs.zip ws).map zTo = toPs xs := by
          rw [toPs_map, ← ez1, List.map_map]
          rw [ez1]
          rfl
        obtain ⟨k1, k2, k3⟩ := sortOk_parts c2
        have hrep := repL_zip h2
        have hfst : ∀ z ∈ xs.zip ws, z.1 ∈ xs := fun z hz => (List.of_mem_zip (a := z.1) (b := z.2) hz).1
        refine ⟨a, xs.zip ws, rfl, by rw [ez2]; exact sqOf (s2.same _ _ h1), fun z hz => ?_, by rw [et]; exact k1, by rw [et]; exact k2, fun z hz => k3 _ ?_, fun p hp => ?_⟩
        · have c1' := c1 z.1 (hfst z hz)
          unfold okP at c1'
          rw [Bool.and_eq_true] at c1'
          exact Rep.dp s2.same z.1 z.2 c1'.1 (hrep z hz)
        · rw [toPs_map]
          exact List.mem_map_of_mem (hfst z hz)
        · have em : ((xs.zip ws).mergeSort (dataLe false zTo)).map Prod.fst = xs.mergeSort (dataLe false toP) := by
            have t := sort_maps (r := dataLe false zTo) (s := dataLe false toP) Prod.fst (l := xs.zip ws) (fun _ _ _ _ => rfl)
            rw [t, ez1]
          have hk := zip_repL (K := X.K) (ca := B.ca) (F := F2) (zs := (xs.zip ws).mergeSort (dataLe false zTo)) fun z hz => hrep z ((List.mergeSort_perm _ _).mem_iff.mp hz)
          rw [em] at hk
          exact q _ _ _ ((s2.pushL hk).newLst hk.length hp)
      · rw [if_neg c] at q; exact q.elim
  | [], q, _ => exact q.elim
  | [.non], q, _ => exact q.elim
  | [.bl _], q, _ => exact q.elim
  | [.int _], q, _ => exact q.elim
  | [.str _], q, _ => exact q.elim
  | [.ty _], q, _ => exact q.elim
  | [.tup _], q, _ => exact q.elim
  | [.cst _], q, _ => exact q.elim
  | [.val _], q, _ => exact q.elim
  | [.tpo _], q, _ => exact q.elim
  | [.dct _ _ _], q, _ => exact q.elim
  | [.obj _ _ _ _], q, _ => exact q.elim
  | a :: _ :: _, q, _ => cases a <;> exact q.elim
end
/-! ### list(range(n)) -/
def eLstRg (m : ME) : ME := fun τ => (m τ).bind fun d τ1 => match d with
  | .int n => if -(2 ^ 62) ≤ n ∧ n ≤ 1000000 then .ok (.lst true (rangeD 0 n.toNat)) τ1 else .bad
  | _ => .bad
theorem repL_range {K : PySem.W.Frag} {ca : Str → Addr} {F : Hp} (f : Nat → Int) : ∀ l : List Nat, RepL K ca F (l.map fun k => D.int (f k)) (l.map fun k => V.int (f k))
  | [] => rfl
  | k :: l => ⟨_, _, rfl, rfl, repL_range f l⟩
section
variable {X : Cx} {B : Bx} {W : WX}
theorem e_lstRg {e : Expr} {p p2 pos pos2 : Pos} {m : ME} (c : XOk X W) (hg : Gl X "list") (hm : X.mg "list" = none) (hg2 : Gl X "range") (hm2 : X.mg "range" = none) (he : PE X e (rdE X.K B W m))
    (hs : starEach [e] X.env = (false, eval e X.env) :: starEach [] X.env := by rfl)
    (hs2 : starEach [.Call (.Name "range" p2) [e] [] pos2] X.env = (false, eval (.Call (.Name "range" p2) [e] [] pos2) X.env) :: starEach [] X.env := by rfl) :
    PE X (.Call (.Name "list" p) [.Call (.Name "range" p2) [e] [] pos2] [] pos) (rdE X.K B W (eLstRg m)) := PE.imp (pe_listRg c.calm hg hm (prg_1 hg2 hm2 he hs) hs2) fun σ H Q ⟨F, τ, vs, ds, s, p⟩ => by
  refine ⟨F, τ, vs, ds, s, post_imp (post_bind p) (fun d τ1 q v F1 H1 s1 => ?_) fun _ _ q => q⟩
  cases d with
  | int n =>
    replace q : post _ _ (if -(2 ^ 62) ≤ n ∧ n ≤ 1000000 then R.ok (D.lst true (rangeD 0 n.toNat)) τ1 else R.bad) := q
    by_cases c : -(2 ^ 62) ≤ n ∧ n ≤ 1000000
    · rw [if_pos c] at q
      refine ⟨n, s1.topF rfl, ⟨by decide, by decide, by omega, by omega, by omega⟩, fun p hp => ?_⟩
      have hk : RepL X.K B.ca F1 (rangeD 0 n.toNat) (rgV 0 n) := by
        have := repL_range (K := X.K) (ca := B.ca) (F := F1) (fun k => 0 + (k : Int)) (List.range n.toNat)
        unfold rangeD rgV
        rw [show (n - 0).toNat = n.toNat by omega]
        exact this
      exact q _ _ _ ((s1.pop.pushL hk).newLst hk.length hp)
    · rw [if_neg c] at q; exact q.elim
  | _ => exact q.elim
end
/-! ### typed -/
section
variable {α : Type} {G G1 : List Slot} {X : Env → Prop}
def N.lrange (n : Int) : N (List Int) := if -(2 ^ 62) ≤ n ∧ n ≤ 1000000 then .ok ((List.range n.toNat).map fun k : Nat => (k : Int)) else .bad
theorem ve_lstRg {m : ME} {v : N Int} {w : N (List Int)} (h : VE m G v eI G1 X) (hw : w = v.bind fun n => N.lrange n := by first | with_reducible rfl | simp only [N.bind_ok, N.bind_assoc] | rfl) : VE (eLstRg m) G w (eLi true eI) G1 X := fun τ s => by
  rw [hw]
  exact (h τ s).bind fun n d τ1 ⟨e2, s1⟩ => by
    cases (show d = .int n from e2)
    unfold N.lrange
    by_cases c : -(2 ^ 62) ≤ n ∧ n ≤ 1000000
    · rw [if_pos c]
      refine ⟨.lst true (rangeD 0 n.toNat), τ1, ?_, ⟨_, rfl, ?_⟩, s1⟩
      · show (if _ then _ else _) = _
        rw [if_pos c]
      · unfold rangeD
        have : (List.range n.toNat).map (fun k : Nat => D.int (0 + (k : Nat))) = ((List.range n.toNat).map fun k : Nat => (k : Int)).map D.int := by
          rw [List.map_map]
          exact List.map_congr_left fun k _ => by show D.int (0 + (k : Int)) = D.int (k : Int); congr 1; omega
        rw [this]
        exact al_ints _
    · rw [if_neg c]; trivial
def sortN (f : α → D) (xs : List α) : N (List α) := if ((xs.map f).all okP && sortOk (toPs (xs.map f))) = true then .ok (xs.mergeSort fun a b => dataLe false toP (f a) (f b)) else .bad
theorem al_each {e : EP α} {f : α → D} (z : Fx e f) : ∀ {xs : List α} {ds : List D}, Al e xs ds → ∀ x ∈ xs, e x (f x)
  | _, _, .nil, x, h => by simp at h
  | _, _, .cons a b, x, h => by
    rcases List.mem_cons.mp h with rfl | h
    · have := z _ _ a; subst this; exact a
    · exact al_each z b x h
theorem al_of {e : EP α} {f : α → D} : ∀ {xs : List α}, (∀ x ∈ xs, e x (f x)) → Al e xs (xs.map f)
  | [], _ => .nil
  | x :: xs, h => .cons (h x List.mem_cons_self) (al_of fun y hy => h y (List.mem_cons_of_mem _ hy))
theorem ve_sortedD {m : MA} {v w : N (List α)} {b : Bool} {e e' : EP α} {f : α → D} (h : VA m G v (eOne (eLi b e)) G1 X) (z : Fz (eLi b e) (eLi false e')) (zx : Fx e' f) (hw : w = v.bind fun xs => sortN f xs := by first | with_reducible rfl | simp only [N.bind_ok, N.bind_assoc] | rfl) : VE (eSortedD m) G w (eLi true e') G1 X := fun τ s => by
  rw [hw]
  exact (h τ s).bind fun xs ds τ1 ⟨⟨d, e1, e2⟩, s1⟩ => by
    obtain ⟨es, k2, k3⟩ := z _ _ e2
    subst e1
    unfold sortN
    by_cases c : ((xs.map f).all okP && sortOk (toPs (xs.map f))) = true
    · rw [if_pos c]
      have ee := fx_al zx k3
      refine ⟨.lst true ((xs.map f).mergeSort (dataLe false toP)), τ1, ?_, ⟨_, rfl, ?_⟩, s1⟩
      · show (match freezeL [d] with | [.lst _ es] => (if (es.all okP && sortOk (toPs es)) = true then R.ok (D.lst true (es.mergeSort (dataLe false toP))) τ1 else .bad) | _ => .bad) = _
        rw [show freezeL [d] = [freeze d] from rfl, k2]
        show (if (es.all okP && sortOk (toPs es)) = true then R.ok (D.lst true (es.mergeSort (dataLe false toP))) τ1 else .bad) = _
        rw [ee, if_pos c]
      · have t := sort_maps (r := fun a b => dataLe false toP (f a) (f b)) (s := dataLe false toP) f (l := xs) (fun _ _ _ _ => rfl)
        rw [← t]
        exact al_of fun x hx => al_each zx k3 x ((List.mergeSort_perm _ _).mem_iff.mp hx)
    · rw [if_neg c]; trivial
end
/-! ### a comprehension over a list that its name keeps -/
section
variable {α β : Type} {G GI : List Slot} {X : Env → Prop}
theorem al_allFz {e : EP α} (z : Zf e) : ∀ {xs : List α} {ds : List D}, Al e xs ds → ds.all isFz = true
  | _, _, .nil => rfl
  | _, _, .cons a b => by rw [List.all_cons, z _ _ a, al_allFz z b]; rfl
theorem ve_lcB {own : List Nat} {i : Nat} {g : D → Env → Option Env} {t : MT} {m : ME} {xs : List α} {e : EP α} {e' : EP β} {p : α → List Slot → List Slot} {nt : α → N Bool} {nf : α → N β} {G2 G3 : α → List Slot} {w : N (List β)} (z : Zf e) (hg : VG g e p) (h1 : Ent (wipeG (put G i .any) own) GI) (ht : ∀ x, VT t (p x GI) (nt x) (G2 x) fun _ => True) (hm : ∀ x, VE m (G2 x) (nf x) e' (G3 x) fun _ => True) (h2 : ∀ x, Ent (wipeG (G2 x) own) GI) (h3 : ∀ x, Ent (wipeG (G3 x) own) GI)
    (h : nth G i = .val (eLi true e) xs := by rfl) (hw : w = lcN nt nf xs := by with_reducible rfl) : VE (eLcB own i g t m) G w (eLi true e') (put GI i (.val (eLi true e) xs)) X := fun τ s => by
  rw [hw]
  obtain ⟨d, k1, ds, rfl, k2⟩ := s.get h
  unfold lcN
  by_cases c : xs.length ≤ 1000000
  · rw [if_pos c]
    cases er : lcR nt nf xs with
    | ok ys =>
      have s0 : Is (put G i .any) (τ.set i none) := Is.put (q := Slot.any) (o := none) True.intro i s
      obtain ⟨es, τ', z1, z2, z3⟩ := sat_lc hg ht hm h2 h3 [] (wipeE (τ.set i none) own) k2 (by rw [List.length_nil]; omega) (h1 _ (s0.wipe own)) ys er
      refine ⟨.lst true es, τ'.set i (some (.lst true ds)), ?_, ⟨es, rfl, z2⟩, Is.put (q := Slot.val (eLi true e) xs) (o := some (.lst true ds)) ⟨_, rfl, ds, rfl, k2⟩ i z3⟩
      unfold eLcB
      rw [k1]
      show (if ds.all isFz = true then (match lcL own g t m ds [] (wipeE (τ.set i none) own) with | .ok acc τ2 => R.ok (D.lst true acc) (τ2.set i (some (.lst true ds))) | _ => R.bad) else R.bad) = _
      rw [if_pos (al_allFz z k2), z1]
      rfl
    | ex c => exact absurd er (lcR_noex nt nf xs c)
    | bad => exact True.intro
  · rw [if_neg c]; exact True.intro
end
end Bn

namespace Lw
open PySem PySem.Spec PyProof.Rows L2 Bn
/-! ### the text -/
def topS (i : Nat) : Stmt := PySem.Challenge.pw_boxnarrow_k73_islands_apart.main.body.getD i (.Pass ⟨0, 0, 0, 0⟩)
abbrev s_common : Stmt := topS 1
theorem sc_common : FnScope ["a", "b", "low", "high"] ["a", "b"] (defScope s_common) := ⟨rfl, rfl, rfl, by decide +kernel, rfl, by decide +kernel, by decide +kernel⟩
abbrev s_touch : Stmt := topS 4
theorem sc_touch : FnScope ["one", "other", "k"] ["one", "other"] (defScope s_touch) := ⟨rfl, rfl, rfl, by decide +kernel, rfl, by decide +kernel, by decide +kernel⟩
abbrev s_grown_from : Stmt := topS 5
theorem sc_grown_from : FnScope ["boxes", "first", "numbers", "at", "k"] ["boxes", "first"] (defScope s_grown_from) := ⟨rfl, rfl, rfl, by decide +kernel, rfl, by decide +kernel, by decide +kernel⟩
abbrev s_hull : Stmt := topS 2
theorem sc_hull : FnScope ["a", "b"] ["a", "b"] (defScope s_hull) := ⟨rfl, rfl, rfl, by decide +kernel, rfl, by decide +kernel, by decide +kernel⟩
abbrev s_hull_of : Stmt := topS 6
theorem sc_hull_of : FnScope ["boxes", "numbers", "spans", "number", "k"] ["boxes", "numbers"] (defScope s_hull_of) := ⟨rfl, rfl, rfl, by decide +kernel, rfl, by decide +kernel, by decide +kernel⟩
abbrev s_islands : Stmt := topS 7
theorem sc_islands : FnScope ["boxes", "found", "done", "first", "numbers", "number"] ["boxes"] (defScope s_islands) := ⟨rfl, rfl, rfl, by decide +kernel, rfl, by decide +kernel, by decide +kernel⟩
abbrev s__law_mix : Stmt := topS 10
theorem sc__law_mix : FnScope ["_law_cell", "_law_k"] ["_law_cell", "_law_k"] (defScope s__law_mix) := ⟨rfl, rfl, rfl, by decide +kernel, rfl, by decide +kernel, by decide +kernel⟩
abbrev s__law_box : Stmt := topS 11
theorem sc__law_box : FnScope ["_law_cell", "_law_size", "_law_wide", "_law_box_here", "_law_k", "_law_low"] ["_law_cell", "_law_size", "_law_wide"] (defScope s__law_box) := ⟨rfl, rfl, rfl, by decide +kernel, rfl, by decide +kernel, by decide +kernel⟩
abbrev s__law_cell_at : Stmt := topS 9
theorem sc__law_cell_at : FnScope ["_law_script", "_law_k"] ["_law_script", "_law_k"] (defScope s__law_cell_at) := ⟨rfl, rfl, rfl, by decide +kernel, rfl, by decide +kernel, by decide +kernel⟩
abbrev s__law_touch : Stmt := topS 12
theorem sc__law_touch : FnScope ["_law_one", "_law_other", "_law_k"] ["_law_one", "_law_other"] (defScope s__law_touch) := ⟨rfl, rfl, rfl, by decide +kernel, rfl, by decide +kernel, by decide +kernel⟩
abbrev s__law_reached : Stmt := topS 16
theorem sc__law_reached : FnScope ["_law_boxes", "_law_numbers", "_law_reached_here", "_law_turn", "_law_number", "_law_k"] ["_law_boxes", "_law_numbers"] (defScope s__law_reached) := ⟨rfl, rfl, rfl, by decide +kernel, rfl, by decide +kernel, by decide +kernel⟩
abbrev s__law_together : Stmt := topS 17
theorem sc__law_together : FnScope ["_law_boxes", "_law_found", "_law_numbers", "_law_ends", "_law_number", "_law_k"] ["_law_boxes", "_law_found"] (defScope s__law_together) := ⟨rfl, rfl, rfl, by decide +kernel, rfl, by decide +kernel, by decide +kernel⟩
abbrev s__law_third : Stmt := topS 13
theorem sc__law_third : FnScope ["_law_span", "_law_cell"] ["_law_span", "_law_cell"] (defScope s__law_third) := ⟨rfl, rfl, rfl, by decide +kernel, rfl, by decide +kernel, by decide +kernel⟩
abbrev s__law_within : Stmt := topS 14
theorem sc__law_within : FnScope ["_law_point", "_law_box_here", "_law_k"] ["_law_point", "_law_box_here"] (defScope s__law_within) := ⟨rfl, rfl, rfl, by decide +kernel, rfl, by decide +kernel, by decide +kernel⟩
abbrev s__law_point_right : Stmt := topS 15
theorem sc__law_point_right : FnScope ["_law_point", "_law_boxes", "_law_found", "_law_many", "_law_numbers", "_law_ends", "_law_number"] ["_law_point", "_law_boxes", "_law_found"] (defScope s__law_point_right) := ⟨rfl, rfl, rfl, by decide +kernel, rfl, by decide +kernel, by decide +kernel⟩
abbrev s_law : Stmt := topS 18
theorem sc_law : FnScope ["_law_script", "_law_size", "_law_wide", "_law_boxes", "_law_cell", "_law_found", "_law_box_here", "_law_every", "_law_numbers", "_law_ends", "_law_point", "_law_k", "_law_span", "_law_order", "_law_cut", "_law_again", "_law_number", "_law_turned"] ["_law_script"] (defScope s_law) := ⟨rfl, rfl, rfl, by decide +kernel, rfl, by decide +kernel, by decide +kernel⟩
/-! ### the functions -/
def m_common : MS := (sSeq (sAsg (eZ (zC' gMax2 (zaCons (z2 gIx (zVar 0) (zC (.int 0))) (zaCons (z2 gIx (zVar 1) (zC (.int 0))) zaNil)))) (gN 2))
    (sSeq (sAsg (eZ (zC' gMin2 (zaCons (z2 gIx (zVar 0) (zC (.int 1))) (zaCons (z2 gIx (zVar 1) (zC (.int 1))) zaNil)))) (gN 3))
    (sSeq (sIf (tZ (z2 gLt (zVar 3) (zVar 2))) (sRet (eZ (zC .non))) sNil)
    (sRet (eTup (aCons (eVar 2) (aCons (eVar 3) aNil)))))))
def f_common : List D → CR := callF 2 4 m_common
def l_touch_1 : MS := (sIf (tE (e2 gIsN (eCall f_common (aCons (eZ (z2 gIx (zVar 0) (zVar 2))) (aCons (eZ (z2 gIx (zVar 1) (zVar 2))) aNil))) (eZ (zC .non)))) (sRet (eZ (zC (.bl false)))) sNil)
def w_touch_1 : MS := (sFor (iR1 (aCons (eZ (zC' gLen (zaCons (zVar 0) zaNil))) aNil)) (gN 2) l_touch_1)
def u_touch_1 : MS := (sRet (eZ (zC (.bl true))))
def m_touch : MS := (sSeq w_touch_1 u_touch_1)
def f_touch : List D → CR := callF 2 3 m_touch
def fuel_grown_from1 : Bn.Env → Nat := fun τ => match τ.getD 0 none with | some (.lst _ xs) => xs.length + 2 | _ => 0
def l_grown_from_1 : MS := (sIf (tAnd (tZ (z2 (gIn true) (zVar 4) (zVar 2))) (tE (eCall f_touch (aCons (eZ (z2 gIx (zVar 0) (z2 gIx (zVar 2) (zVar 3)))) (aCons (eZ (z2 gIx (zVar 0) (zVar 4))) aNil))))) (sApp 2 (eVar 4)) sNil)
def w_grown_from_1 : MS := (sFor (iR1 (aCons (eZ (zC' gLen (zaCons (zVar 0) zaNil))) aNil)) (gN 4) l_grown_from_1)
def u_grown_from_3 : MS := (sRet (eSorted (aCons (eVar 2) aNil)))
def u_grown_from_2 : MS := (sSeq (sWhile fuel_grown_from1 (tZ (z2 gLt (zVar 3) (zC' gLen (zaCons (zVar 2) zaNil)))) (sSeq w_grown_from_1
    (sAsg (eZ (z2 gAdd (zVar 3) (zC (.int 1)))) (gN 3)))) u_grown_from_3)
def u_grown_from_1 : MS := (sSeq (sAsg (eZ (zC (.int 0))) (gN 3)) u_grown_from_2)
def m_grown_from : MS := (sSeq (sAsg (eLst (aCons (eVar 1) aNil)) (gN 2)) u_grown_from_1)
def f_grown_from : List D → CR := callF 2 5 m_grown_from
def m_hull : MS := (sRet (eTup (aCons (eZ (zC' gMin2 (zaCons (z2 gIx (zVar 0) (zC (.int 0))) (zaCons (z2 gIx (zVar 1) (zC (.int 0))) zaNil)))) (aCons (eZ (zC' gMax2 (zaCons (z2 gIx (zVar 0) (zC (.int 1))) (zaCons (z2 gIx (zVar 1) (zC (.int 1))) zaNil)))) aNil))))
def f_hull : List D → CR := callF 2 2 m_hull
def c_hull_of_1 : ME := (eLc [4] (iR1 (aCons (eZ (zC' gLen (zaCons (zVar 2) zaNil))) aNil)) (gN 4) tTrue (eCall f_hull (aCons (eZ (z2 gIx (zVar 2) (zVar 4))) (aCons (eZ (z2 gIx (z2 gIx (zVar 0) (zVar 3)) (zVar 4))) aNil))))
def l_hull_of_1 : MS := (sAsg c_hull_of_1 (gN 2))
def w_hull_of_1 : MS := (sFor (iL (eVar 1)) (gN 3) l_hull_of_1)
def u_hull_of_2 : MS := (sRet (eMv 2))
def u_hull_of_1 : MS := (sSeq w_hull_of_1 u_hull_of_2)
def m_hull_of : MS := (sSeq (sAsg (eLstOf (aCons (eZ (z2 gIx (zVar 0) (z2 gIx (zVar 1) (zC (.int 0))))) aNil)) (gN 2)) u_hull_of_1)
def f_hull_of : List D → CR := callF 2 5 m_hull_of
def l_islands_1 : MS := (sDPut' 2 (zVar 5) (eZ (zC (.bl true))))
def w_islands_1 : MS := (sFor (iL (eVar 4)) (gN 5) l_islands_1)
def l_islands_2 : MS := (sSeq (sIf (tZ (z2 (gDIn false) (zVar 3) (zVar 2))) sCt sNil)
    (sSeq (sAsg (eCall f_grown_from (aCons (eVar 0) (aCons (eVar 3) aNil))) (gN 4))
    (sSeq w_islands_1
    (sApp 1 (eTup (aCons (eVar 4) (aCons (eCall f_hull_of (aCons (eVar 0) (aCons (eVar 4) aNil))) aNil)))))))
def w_islands_2 : MS := (sFor (iR1 (aCons (eZ (zC' gLen (zaCons (zVar 0) zaNil))) aNil)) (gN 3) l_islands_2)
def u_islands_3 : MS := (sRet (eMv 1))
def u_islands_2 : MS := (sSeq w_islands_2 u_islands_3)
def u_islands_1 : MS := (sSeq (sAsg eDct (gN 2)) u_islands_2)
def m_islands : MS := (sSeq (sAsg (eLst aNil) (gN 1)) u_islands_1)
def f_islands : List D → CR := callF 1 6 m_islands
def m__law_mix : MS := (sRet (eZ (z2 gMod (z2 gAdd (z2 gMulA (z2 gMulA (zVar 0) (z2 gAdd (z2 gMulA (zC (.int 2)) (zVar 1)) (zC (.int 3)))) (zC (.int 48271))) (z2 gMulA (z2 gMulA (zVar 1) (zVar 1)) (zC (.int 7919)))) (zC (.int 2147483647)))))
def f__law_mix : List D → CR := callF 2 2 m__law_mix
def m__law_box : MS := (sSeq (sAsg (eLst aNil) (gN 3))
    (sSeq (sFor (iR1 (aCons (eVar 1) aNil)) (gN 4) (sSeq (sAsg (e2 gMod (eCall f__law_mix (aCons (eVar 0) (aCons (eVar 4) aNil))) (eVar 2)) (gN 5))
    (sApp 3 (eTup (aCons (eVar 5) (aCons (e2 gAdd (eVar 5) (e2 gMod (eCall f__law_mix (aCons (eVar 0) (aCons (eZ (z2 gAdd (zVar 4) (zC (.int 10)))) aNil))) (eZ (zC (.int 5))))) aNil))))))
    (sRet (eMv 3))))
def f__law_box : List D → CR := callF 3 6 m__law_box
def m__law_cell_at : MS := (sSeq (sIf (tZ (z2 gLt (zVar 1) (zC' gLen (zaCons (zVar 0) zaNil)))) (sRet (eZ (z2 gIx (zVar 0) (zVar 1)))) sNil)
    (sRet (eZ (zC (.int 0)))))
def f__law_cell_at : List D → CR := callF 2 2 m__law_cell_at
def m__law_touch : MS := (sSeq (sFor (iR1 (aCons (eZ (zC' gLen (zaCons (zVar 0) zaNil))) aNil)) (gN 2) (sIf (tOr (tZ (z2 gLt (z2 gIx (z2 gIx (zVar 0) (zVar 2)) (zC (.int 1))) (z2 gIx (z2 gIx (zVar 1) (zVar 2)) (zC (.int 0))))) (tZ (z2 gLt (z2 gIx (z2 gIx (zVar 1) (zVar 2)) (zC (.int 1))) (z2 gIx (z2 gIx (zVar 0) (zVar 2)) (zC (.int 0)))))) (sRet (eZ (zC (.bl false)))) sNil))
    (sRet (eZ (zC (.bl true)))))
def f__law_touch : List D → CR := callF 2 3 m__law_touch
def m__law_reached : MS := (sSeq (sAsg (eLst (aCons (eZ (z2 gIx (zVar 1) (zC (.int 0)))) aNil)) (gN 2))
    (sSeq (sFor (iL (eVar 1)) (gN 3) (sFor (iL (eVar 1)) (gN 4) (sIf (tAnd (tZ (z2 (gIn true) (zVar 4) (zVar 2))) (tE (eC gAny (aCons (eLcB [5] 2 (gN 5) tTrue (eCall f__law_touch (aCons (eZ (z2 gIx (zVar 0) (zVar 4))) (aCons (eZ (z2 gIx (zVar 0) (zVar 5))) aNil)))) aNil)))) (sApp 2 (eVar 4)) sNil)))
    (sRet (e2 gEq (eSorted (aCons (eVar 2) aNil)) (eVar 1)))))
def f__law_reached : List D → CR := callF 2 6 m__law_reached
def m__law_together : MS := (sSeq (sFor (iL (eVar 1)) (gT 2 (gCons' (gN 2) (gCons' (gN 3) gNil'))) (sSeq (sIf (tNot (tE (eCall f__law_reached (aCons (eVar 0) (aCons (eVar 2) aNil))))) (sRet (eZ (zC (.bl false)))) sNil)
    (sFor (iL (eVar 2)) (gN 4) (sFor (iR1 (aCons (eZ (zC' gLen (zaCons (zVar 0) zaNil))) aNil)) (gN 5) (sIf (tAnd (tZ (z2 (gIn true) (zVar 5) (zVar 2))) (tE (eCall f__law_touch (aCons (eZ (z2 gIx (zVar 0) (zVar 4))) (aCons (eZ (z2 gIx (zVar 0) (zVar 5))) aNil))))) (sRet (eZ (zC (.bl false)))) sNil)))))
    (sRet (eZ (zC (.bl true)))))
def f__law_together : List D → CR := callF 2 6 m__law_together
def m__law_third : MS := (sRet (eZ (z2 gAdd (z2 gMulA (zC (.int 3)) (z2 gIx (zVar 0) (zC (.int 0)))) (z2 gMulA (z2 gSub (z2 gIx (zVar 0) (zC (.int 1))) (z2 gIx (zVar 0) (zC (.int 0)))) (z2 gMod (zVar 1) (zC (.int 4)))))))
def f__law_third : List D → CR := callF 2 2 m__law_third
def m__law_within : MS := (sSeq (sFor (iR1 (aCons (eZ (zC' gLen (zaCons (zVar 1) zaNil))) aNil)) (gN 2) (sIf (tOr (tZ (z2 gLt (z2 gIx (zVar 0) (zVar 2)) (z2 gMulA (zC (.int 3)) (z2 gIx (z2 gIx (zVar 1) (zVar 2)) (zC (.int 0)))))) (tZ (z2 gGt (z2 gIx (zVar 0) (zVar 2)) (z2 gMulA (zC (.int 3)) (z2 gIx (z2 gIx (zVar 1) (zVar 2)) (zC (.int 1))))))) (sRet (eZ (zC (.bl false)))) sNil))
    (sRet (eZ (zC (.bl true)))))
def f__law_within : List D → CR := callF 2 3 m__law_within
def m__law_point_right : MS := (sSeq (sAsg (eZ (zC (.int 0))) (gN 3))
    (sSeq (sFor (iL (eVar 2)) (gT 2 (gCons' (gN 4) (gCons' (gN 5) gNil'))) (sIf (tE (eC gAny (aCons (eLc [6] (iL (eVar 4)) (gN 6) tTrue (eCall f__law_within (aCons (eVar 0) (aCons (eZ (z2 gIx (zVar 1) (zVar 6))) aNil)))) aNil))) (sSeq (sAsg (eZ (z2 gAdd (zVar 3) (zC (.int 1)))) (gN 3))
    (sIf (tNot (tE (eCall f__law_within (aCons (eVar 0) (aCons (eVar 5) aNil))))) (sRet (eZ (zC (.bl false)))) sNil)) sNil))
    (sRet (eZ (z2 gEq (zVar 3) (zC (.int 1)))))))
def f__law_point_right : List D → CR := callF 3 7 m__law_point_right
def m_law : MS := (sSeq (sAsg (e2 gAdd (eZ (zC (.int 1))) (e2 gMod (eCall f__law_cell_at (aCons (eVar 0) (aCons (eZ (zC (.int 0))) aNil))) (eZ (zC (.int 3))))) (gN 1))
    (sSeq (sAsg (e2 gIx (eLst (aCons (eZ (zC (.int 10))) (aCons (eZ (zC (.int 14))) (aCons (eZ (zC (.int 22))) (aCons (eZ (zC (.int 40))) aNil))))) (e2 gMod (e2 gDiv (eCall f__law_cell_at (aCons (eVar 0) (aCons (eZ (zC (.int 0))) aNil))) (eZ (zC (.int 3)))) (eZ (zC (.int 4))))) (gN 2))
    (sSeq (sAsg (eLc [4] (iL (eSlice cutLd (eVar 0) (pSome (eZ (zC (.int 2)))) (pSome (eZ (zC (.int 18)))))) (gN 4) tTrue (eCall f__law_box (aCons (eVar 4) (aCons (eVar 1) (aCons (eVar 2) aNil))))) (gN 3))
    (sSeq (sAsg (eCall f_islands (aCons (eLc [6] (iL (eVar 3)) (gN 6) tTrue (eLstOf (aCons (eVar 6) aNil))) aNil)) (gN 5))
    (sSeq (sAsg (eLst aNil) (gN 7))
    (sSeq (sFor (iL (eVar 5)) (gT 2 (gCons' (gN 8) (gCons' (gN 9) gNil'))) (sAsg (eCat (eVar 7) (eVar 8)) (gN 7)))
    (sSeq (sIf (tOr (tE (e2 gNe (eSorted (aCons (eVar 7) aNil)) (eLstRg (eZ (zC' gLen (zaCons (zVar 3) zaNil)))))) (tNot (tE (eCall f__law_together (aCons (eVar 3) (aCons (eVar 5) aNil)))))) (sRet (eZ (zC (.bl false)))) sNil)
    (sSeq (sFor (iZ (aCons (eSlice cutLd (eVar 0) (pSome (eZ (zC (.int 2)))) (pSome (eZ (zC (.int 18))))) (aCons (eVar 3) aNil))) (gT 2 (gCons' (gN 4) (gCons' (gN 6) gNil'))) (sSeq (sAsg (eLc [11, 12] (iE (aCons (eVar 6) aNil)) (gT 2 (gCons' (gN 11) (gCons' (gN 12) gNil'))) tTrue (eCall f__law_third (aCons (eVar 12) (aCons (eCall f__law_mix (aCons (eVar 4) (aCons (eZ (z2 gAdd (zC (.int 50)) (zVar 11))) aNil))) aNil)))) (gN 10))
    (sIf (tNot (tE (eCall f__law_point_right (aCons (eVar 10) (aCons (eVar 3) (aCons (eVar 5) aNil)))))) (sRet (eZ (zC (.bl false)))) sNil)))
    (sSeq (sAsg (eLstRg (eZ (zC' gLen (zaCons (zVar 3) zaNil)))) (gN 13))
    (sSeq (sAsg (e2 gMod (e2 gDiv (eCall f__law_cell_at (aCons (eVar 0) (aCons (eZ (zC (.int 1))) aNil))) (eZ (zC (.int 2)))) (eZ (z2 gAdd (zC' gLen (zaCons (zVar 3) zaNil)) (zC (.int 1))))) (gN 14))
    (sSeq (sAsg (eCat (eSlice cutLd (eVar 13) (pSome (eVar 14)) pNone) (eSlice cutLd (eVar 13) pNone (pSome (eVar 14)))) (gN 13))
    (sSeq (sIf (tE (e2 gEq (e2 gMod (eCall f__law_cell_at (aCons (eVar 0) (aCons (eZ (zC (.int 1))) aNil))) (eZ (zC (.int 2)))) (eZ (zC (.int 1))))) (sAsg (eLstRev (eVar 13)) (gN 13)) sNil)
    (sSeq (sAsg (eCall f_islands (aCons (eLc [16] (iL (eVar 13)) (gN 16) tTrue (eLstOf (aCons (eZ (z2 gIx (zVar 3) (zVar 16))) aNil))) aNil)) (gN 15))
    (sSeq (sAsg (eSortedD (aCons (eLc [8, 9] (iL (eVar 15)) (gT 2 (gCons' (gN 8) (gCons' (gN 9) gNil'))) tTrue (eTup (aCons (eSorted (aCons (eLc [11] (iL (eVar 8)) (gN 11) tTrue (eZ (z2 gIx (zVar 13) (zVar 11)))) aNil)) (aCons (eVar 9) aNil)))) aNil)) (gN 17))
    (sRet (e2 gEq (eVar 17) (eSortedD (aCons (eLc [8, 9] (iL (eVar 5)) (gT 2 (gCons' (gN 8) (gCons' (gN 9) gNil'))) tTrue (eTup (aCons (eVar 8) (aCons (eVar 9) aNil)))) aNil))))))))))))))))))
def f_law : List D → CR := callF 1 18 m_law
end Lw
namespace Lw
open PySem PySem.Spec PyProof.Rows L2 Bn
--HRUNA
def fd0 : He.FnD := ⟨("common", none), "common", "common", defArgs s_common, defBody s_common, defScope s_common⟩
def fd1 : He.FnD := ⟨("touch", none), "touch", "touch", defArgs s_touch, defBody s_touch, defScope s_touch⟩
def fd2 : He.FnD := ⟨("grown_from", none), "grown_from", "grown_from", defArgs s_grown_from, defBody s_grown_from, defScope s_grown_from⟩
def fd3 : He.FnD := ⟨("hull", none), "hull", "hull", defArgs s_hull, defBody s_hull, defScope s_hull⟩
def fd4 : He.FnD := ⟨("hull_of", none), "hull_of", "hull_of", defArgs s_hull_of, defBody s_hull_of, defScope s_hull_of⟩
def fd5 : He.FnD := ⟨("islands", none), "islands", "islands", defArgs s_islands, defBody s_islands, defScope s_islands⟩
def fd6 : He.FnD := ⟨("_law_mix", none), "_law_mix", "_law_mix", defArgs s__law_mix, defBody s__law_mix, defScope s__law_mix⟩
def fd7 : He.FnD := ⟨("_law_box", none), "_law_box", "_law_box", defArgs s__law_box, defBody s__law_box, defScope s__law_box⟩
def fd8 : He.FnD := ⟨("_law_cell_at", none), "_law_cell_at", "_law_cell_at", defArgs s__law_cell_at, defBody s__law_cell_at, defScope s__law_cell_at⟩
def fd9 : He.FnD := ⟨("_law_touch", none), "_law_touch", "_law_touch", defArgs s__law_touch, defBody s__law_touch, defScope s__law_touch⟩
def fd10 : He.FnD := ⟨("_law_reached", none), "_law_reached", "_law_reached", defArgs s__law_reached, defBody s__law_reached, defScope s__law_reached⟩
def fd11 : He.FnD := ⟨("_law_together", none), "_law_together", "_law_together", defArgs s__law_together, defBody s__law_together, defScope s__law_together⟩
def fd12 : He.FnD := ⟨("_law_third", none), "_law_third", "_law_third", defArgs s__law_third, defBody s__law_third, defScope s__law_third⟩
def fd13 : He.FnD := ⟨("_law_within", none), "_law_within", "_law_within", defArgs s__law_within, defBody s__law_within, defScope s__law_within⟩
def fd14 : He.FnD := ⟨("_law_point_right", none), "_law_point_right", "_law_point_right", defArgs s__law_point_right, defBody s__law_point_right, defScope s__law_point_right⟩
def fd15 : He.FnD := ⟨("law", none), "law", "law", defArgs s_law, defBody s_law, defScope s_law⟩
def hfn0 : List He.FnD := [fd0, fd1, fd2, fd3, fd4, fd5, fd6, fd7, fd8, fd9, fd10, fd11, fd12, fd13, fd14, fd15]
def hfn : List He.FnD := hfn0
def hfa0 : List He.Fa := [.glo "common", .keep "common", .glo "touch", .keep "touch", .glo "grown_from", .keep "grown_from", .glo "hull", .keep "hull", .glo "hull_of", .keep "hull_of", .glo "islands", .keep "islands", .glo "_law_mix", .keep "_law_mix", .glo "_law_box", .keep "_law_box", .glo "_law_cell_at", .keep "_law_cell_at", .glo "_law_touch", .keep "_law_touch", .glo "_law_reached", .keep "_law_reached", .glo "_law_together", .keep "_law_together", .glo "_law_third", .keep "_law_third", .glo "_law_within", .keep "_law_within", .glo "_law_point_right", .keep "_law_point_right"]
def hfa1 : List He.Fa := [.glo "law", .keep "law", .free "any", .free "enumerate", .free "len", .free "list", .free "max", .free "min", .free "range", .free "reversed", .free "sorted", .free "zip"]
def hfa : List He.Fa := hfa0 ++ hfa1
def hex (K : PySem.W.Frag) : Bool := true
def hnames0 : List Str := ["common", "hull", "touch", "grown_from", "hull_of", "islands", "_law_cell_at", "_law_mix", "_law_box", "_law_touch", "_law_third", "_law_within", "_law_point_right", "_law_reached", "_law_together"]
def hnames : List Str := hnames0
abbrev hk : PySem.W.Hook := hkB hfa hfn hex
def hob (s : PySem.W.SharedT) : He.Al × Bool := fragC (HandSHeadRun.getT s) (obB hfa hfn hex)
theorem hob_eq (s : PySem.W.SharedT) : hob s = hk.obs s.abs := (fragC_eq _ _).trans (obBG_eq (HandSHeadRun.getT_eq s))
set_option maxHeartbeats 0 in
theorem hrun (w : World) : HandSHeadRun.RunEq (PySem.W.OpenLaw.row PySem.Challenge.rw_boxnarrow_k73_islands_apart) (PySem.W.view (PySem.W.OpenLaw.row PySem.Challenge.rw_boxnarrow_k73_islands_apart).prog [18]) hk hob 14000 hnames w := by
  intro os
  kernel_rfl
end Lw

namespace Lw
open Bn
local macro_rules
  | `(tactic| simp_arith only [$ls,*]) => `(tactic| simp (disch := decide) only [x_seq, x_seq1, x_seq2, x_seq3, x_seq4, x_seq5, x_seq6, x_nil, x_if, x_if1, x_if2, x_if3, x_ret, x_ret1, x_ret2, x_ret3, x_retN, x_asg, x_asg1, x_asg2, x_asg3, x_asg4, x_asg5, x_gN, x_drop, x_drop1, x_drop2, x_bk, x_ct, x_raise, x_tZ, x_tZ1, x_tZ2, x_tE, x_tE1, x_tE2, x_tE3, x_tAnd, x_tAnd1, x_tAnd2, x_tAnd3, x_tOr, x_tOr1, x_tOr2, x_tOr3, x_tNot, x_tNot1, x_tNot2, x_tNot3, x_tTrue, x_z2, x_z21, x_z1, x_z11, x_zC, x_zC1, x_za, x_za1, x_za0, x_zV, x_zK, x_ch, x_ch1, x_ch2, x_eZ, x_eZ1, x_eZ2, x_eV, x_eV1, x_eM, x_eM1, x_b1, x_b2, x_b3, x_s1, x_s2, x_s3, x_oO, x_oO2, x_e2, x_e1, x_eC, x_aN, x_aC, x_tup, x_lst, x_call, x_oC1, x_oC2, x_call0, x_call01, x_eAnd, x_eAnd1, x_eOr, x_eOr1, x_eNot, x_eNot1, x_eIf, x_eIf1, x_fz_int, x_fr_int, x_fz_bl, x_fr_bl, x_fz_str, x_fr_str, x_fz_ty, x_fr_ty, x_fz_tup, x_fr_tup, x_fz_cst, x_fr_cst, x_fz_lst_false, x_fr_lst_false, x_fz_non, x_fr_non, x_fz_lt, x_fr_lt, x_fL0, x_fL1, x_cF, x_cR1, x_cR2, x_cR3, x_iL, x_iL1, x_iT, x_iT1, x_iS, x_iS1, x_iR1, x_iR11, x_iR2, x_iR21, x_iE, x_iE1, x_iV, x_iV1, x_iZ, x_iZ1, x_for, x_fo0, x_fo1, x_fo2, x_fo3, x_fo4, x_fo5, x_fo6, x_fo7, x_gT, x_gC, x_gC0, x_try, x_try1, x_try2, x_try3, x_try4, x_try5, x_nx1, x_nx2, x_try6, x_try7, x_nx3, x_nx4, x_app, x_app1, x_app2, x_lc, x_lcE, x_lc0, x_lc1, x_lcG, x_w0, x_w1, vMinL4, vMaxL4, vAll3, vAny3, vAll4, vAny4, x_wh1, x_wh2, x_wh0, x_abs, vI_ii, vI_ib, vI_it, vI_il, vI_is, vI_bb, vI_bi, vI_tt, vI_tl, vI_ti, vI_ll, vI_lt, vI_ss, vEqB, vNeB, x_ta, x_ta1, x_ta2, x_ta3, x_ta4, x_ta5, x_is, nc_0, nc_1, nc_2, nc_3, nc_4, nc_5, nc_6, nc_7, nc_8, nc_9, nc_10, nc_11, vMax2, vMin2, vIsN0, vIsN1, vNotN0, vNotN1, vIsN2, vNotN2, x_lo, x_lo1, x_lo2, vAll2, vAny2, x_sl, x_sl1, x_sl2, x_pn, x_ps, x_ps1, x_cutL, x_cutC, vEqS, vNeS, x_fz_obj, x_fr_obj, x_make, x_meth, x_meth2, x_meth3, x_isO, x_isO1, x_cat, x_cat1, x_methZ, x_methZ2, x_methZ3, x_callZ, x_callZ1, x_lend1, x_lend2, x_cl_int, x_cl_bl, x_cl_str, x_cl_non, x_cl_tup, x_cl0, x_cl1, x_cl_lst, x_setIx, x_setIx1, x_setIx2, x_callI, x_callI1, x_callI2, x_callI3, x_take0, x_take1, x_take2, x_put0, x_put1, x_cFI, x_cRI1, x_cRI2, x_outR, x_outR1, x_out1, x_out2, x_par, x_par1, x_sort, x_sort1, x_sort2, x_io2, x_io4, vIsB, x_pop, x_lr, x_lr1, x_clr, x_clr1, x_clrE, x_clrE1, x_pop1, x_pop2, x_ins, x_ins1, x_ins2, x_sk, x_sk1, x_sk2, x_sk3, x_ck, x_ck1, x_lk, x_lk1, x_iK, x_iK1, x_forB, x_fbD, x_fbR, x_fbR2, x_fzE, vInt1, vInt2, x_tupO, x_tupO1, x_tupO2, x_e2Z, x_e2Z1, x_appF, x_appF1, x_appF2, x_appF3, x_setF, x_setF1, x_setF2, x_setF3, x_setFd, x_setFd1, x_makeI, x_makeI1, x_methI, x_methI1, x_methI2, x_mz0, x_mz01, x_mz02, x_mz03, x_m0, x_m01, x_m02, x_m03, x_fz_objt, x_fr_objt, List.all_cons, List.all_nil, Option.isSome_some, Option.map_some, List.getD_cons_zero, List.getD_cons_succ, List.set_cons_zero, List.set_cons_succ, List.map_cons, List.map_nil, List.replicate_zero, List.replicate_succ, List.length_cons, List.length_nil, List.cons_append, List.nil_append, Option.bind_some, if_true, if_false, Bool.false_eq_true, Nat.reduceSub, Nat.reduceAdd, Nat.reduceLeDiff, Nat.reduceLT, vAdd, vSub, vLt, vLe, vGt, vGe, vNeg, vEq, vNe, vEq2, vNe2, vMod, vDiv, vMul, vPow, Int.reduceToNat, vIx0, vIx1, vLenT, vLenC, vLenL, reduceIte, decide_true, decide_false, Bool.not_true, Bool.not_false, beq_self_eq_true, Bool.and_true, Bool.true_and, Bool.and_self, Bool.and_false, Bool.false_and, $ls,*])
local macro_rules
  | `(tactic| simp_arith [$ls,*]) => `(tactic| simp only [x_seq, x_seq1, x_seq2, x_seq3, x_seq4, x_seq5, x_seq6, x_nil, x_if, x_if1, x_if2, x_if3, x_ret, x_ret1, x_ret2, x_ret3, x_retN, x_asg, x_asg1, x_asg2, x_asg3, x_asg4, x_asg5, x_gN, x_drop, x_drop1, x_drop2, x_bk, x_ct, x_raise, x_tZ, x_tZ1, x_tZ2, x_tE, x_tE1, x_tE2, x_tE3, x_tAnd, x_tAnd1, x_tAnd2, x_tAnd3, x_tOr, x_tOr1, x_tOr2, x_tOr3, x_tNot, x_tNot1, x_tNot2, x_tNot3, x_tTrue, x_z2, x_z21, x_z1, x_z11, x_zC, x_zC1, x_za, x_za1, x_za0, x_zV, x_zK, x_ch, x_ch1, x_ch2, x_eZ, x_eZ1, x_eZ2, x_eV, x_eV1, x_eM, x_eM1, x_b1, x_b2, x_b3, x_s1, x_s2, x_s3, x_oO, x_oO2, x_e2, x_e1, x_eC, x_aN, x_aC, x_tup, x_lst, x_call, x_oC1, x_oC2, x_call0, x_call01, x_eAnd, x_eAnd1, x_eOr, x_eOr1, x_eNot, x_eNot1, x_eIf, x_eIf1, x_fz_int, x_fr_int, x_fz_bl, x_fr_bl, x_fz_str, x_fr_str, x_fz_ty, x_fr_ty, x_fz_tup, x_fr_tup, x_fz_cst, x_fr_cst, x_fz_lst_false, x_fr_lst_false, x_fz_non, x_fr_non, x_fz_lt, x_fr_lt, x_fL0, x_fL1, x_cF, x_cR1, x_cR2, x_cR3, x_iL, x_iL1, x_iT, x_iT1, x_iS, x_iS1, x_iR1, x_iR11, x_iR2, x_iR21, x_iE, x_iE1, x_iV, x_iV1, x_iZ, x_iZ1, x_for, x_fo0, x_fo1, x_fo2, x_fo3, x_fo4, x_fo5, x_fo6, x_fo7, x_gT, x_gC, x_gC0, x_try, x_try1, x_try2, x_try3, x_try4, x_try5, x_nx1, x_nx2, x_try6, x_try7, x_nx3, x_nx4, x_app, x_app1, x_app2, x_lc, x_lcE, x_lc0, x_lc1, x_lcG, x_w0, x_w1, vMinL4, vMaxL4, vAll3, vAny3, vAll4, vAny4, x_wh1, x_wh2, x_wh0, x_abs, vI_ii, vI_ib, vI_it, vI_il, vI_is, vI_bb, vI_bi, vI_tt, vI_tl, vI_ti, vI_ll, vI_lt, vI_ss, vEqB, vNeB, x_ta, x_ta1, x_ta2, x_ta3, x_ta4, x_ta5, x_is, nc_0, nc_1, nc_2, nc_3, nc_4, nc_5, nc_6, nc_7, nc_8, nc_9, nc_10, nc_11, vMax2, vMin2, vIsN0, vIsN1, vNotN0, vNotN1, vIsN2, vNotN2, x_lo, x_lo1, x_lo2, vAll2, vAny2, x_sl, x_sl1, x_sl2, x_pn, x_ps, x_ps1, x_cutL, x_cutC, vEqS, vNeS, x_fz_obj, x_fr_obj, x_make, x_meth, x_meth2, x_meth3, x_isO, x_isO1, x_cat, x_cat1, x_methZ, x_methZ2, x_methZ3, x_callZ, x_callZ1, x_lend1, x_lend2, x_cl_int, x_cl_bl, x_cl_str, x_cl_non, x_cl_tup, x_cl0, x_cl1, x_cl_lst, x_setIx, x_setIx1, x_setIx2, x_callI, x_callI1, x_callI2, x_callI3, x_take0, x_take1, x_take2, x_put0, x_put1, x_cFI, x_cRI1, x_cRI2, x_outR, x_outR1, x_out1, x_out2, x_par, x_par1, x_sort, x_sort1, x_sort2, x_io2, x_io4, vIsB, x_pop, x_lr, x_lr1, x_clr, x_clr1, x_clrE, x_clrE1, x_pop1, x_pop2, x_ins, x_ins1, x_ins2, x_sk, x_sk1, x_sk2, x_sk3, x_ck, x_ck1, x_lk, x_lk1, x_iK, x_iK1, x_forB, x_fbD, x_fbR, x_fbR2, x_fzE, vInt1, vInt2, x_tupO, x_tupO1, x_tupO2, x_e2Z, x_e2Z1, x_appF, x_appF1, x_appF2, x_appF3, x_setF, x_setF1, x_setF2, x_setF3, x_setFd, x_setFd1, x_makeI, x_makeI1, x_methI, x_methI1, x_methI2, x_mz0, x_mz01, x_mz02, x_mz03, x_m0, x_m01, x_m02, x_m03, x_fz_objt, x_fr_objt, List.all_cons, List.all_nil, Option.isSome_some, Option.map_some, List.getD_cons_zero, List.getD_cons_succ, List.set_cons_zero, List.set_cons_succ, List.map_cons, List.map_nil, List.replicate_zero, List.replicate_succ, List.length_cons, List.length_nil, List.cons_append, List.nil_append, Option.bind_some, if_true, if_false, Bool.false_eq_true, Nat.reduceSub, Nat.reduceAdd, Nat.reduceLeDiff, Nat.reduceLT, vAdd, vSub, vLt, vLe, vGt, vGe, vNeg, vEq, vNe, vEq2, vNe2, vMod, vDiv, vMul, vPow, Int.reduceToNat, vIx0, vIx1, vLenT, vLenC, vLenL, reduceIte, decide_true, decide_false, Bool.not_true, Bool.not_false, beq_self_eq_true, Bool.and_true, Bool.true_and, Bool.and_self, Bool.and_false, Bool.false_and, $ls,*])
namespace I
def spD (p : Int × Int) : D := .tup [.int p.1, .int p.2]
theorem fz_sp (l : List (Int × Int)) : freezeL (l.map spD) = l.map spD := fz_map (fun _ => rfl) l
def bF (b : List (Int × Int)) : D := .lst false (b.map spD)
def bO (b : List (Int × Int)) : D := .lst true (b.map spD)
def ptN (l : List (Int × Int)) (k : Nat) : Int × Int := l.getD k (0, 0)
theorem ix_sp {l : List (Int × Int)} {k : Nat} (h : k < l.length) (m : Bool) : gIx (.lst m (l.map spD)) (.int (k : Int)) = some (.tup [.int (ptN l k).1, .int (ptN l k).2]) := vIxL_of (k := k) rfl (by
  unfold ptN
  rw [List.getElem?_map, List.getD_eq_getElem?_getD, List.getElem?_eq_getElem h]; rfl)
theorem len_sp (l : List (Int × Int)) (m : Bool) : gLen [.lst m (l.map spD)] = some (.int (l.length : Int)) := by rw [vLenL, List.length_map]
theorem lc_pickx {α : Type} {own : List Nat} {g : D → Bn.Env → Option Bn.Env} {t : MT} {m : ME} (τ : Bn.Env) (f : α → D) (p : α → Bool) (h : α → D) : ∀ (items : List α) (acc : List D), acc.length + items.length ≤ 1000000 → (∀ k ∈ items, ∃ τ1 τ2, g (f k) τ = some τ1 ∧ t τ1 = .ok (p k) τ2 ∧ wipeE τ2 own = τ ∧ (p k = true → ∃ τ3, m τ2 = .ok (h k) τ3 ∧ wipeE τ3 own = τ)) → lcL own g t m (items.map f) acc τ = .ok (acc ++ (items.filter p).map h) τ
  | [], acc, _, _ => by rw [List.map_nil, x_lc0, List.filter_nil, List.map_nil, List.append_nil]
  | k :: ks, acc, hl, hh => by
    obtain ⟨τ1, τ2, e1, e2, e3, e4⟩ := hh k List.mem_cons_self
    rw [List.length_cons] at hl
    rw [List.map_cons, x_lc1, e1, x_lcG, e2, x_b1]
    cases hp : p k with
    | true =>
      obtain ⟨τ3, e5, e6⟩ := e4 hp
      rw [if_pos rfl, e5, x_b1, if_pos (by omega), e6, lc_pickx τ f p h ks (acc ++ [h k]) (by rw [List.length_append, List.length_cons, List.length_nil]; omega) fun k' hk => hh k' (List.mem_cons_of_mem _ hk), List.filter_cons_of_pos hp, List.map_cons, List.append_assoc]
      rfl
    | false =>
      rw [if_neg (by simp), e3, lc_pickx τ f p h ks acc (by omega) fun k' hk => hh k' (List.mem_cons_of_mem _ hk), List.filter_cons_of_neg (by simp [hp])]
def mrow (n : Nat) (r : Nat → Int) : List D := (List.range n).map fun k => D.int (r k)
def matF (b : Bool) (n : Nat) (A : Nat → Nat → Int) : D := .lst b ((List.range n).map fun a => .lst b (mrow n (A a)))

theorem rangeD_succ (j n : Nat) : rangeD ((j : Nat) : Int) (n + 1) = .int (j : Int) :: rangeD ((j + 1 : Nat) : Int) n := by
  unfold rangeD
  rw [List.range_succ_eq_map, List.map_cons, List.map_map]
  have h1 : ((j : Int) + ((0 : Nat) : Int)) = (j : Int) := by omega
  rw [h1]
  refine congrArg (D.int (j : Int) :: ·) (List.map_congr_left fun k _ => ?_)
  show D.int ((j : Int) + ((k + 1 : Nat) : Int)) = D.int (((j + 1 : Nat) : Int) + (k : Int))
  congr 1; omega
/-! ### touching -/
/-- a box of spans that stand the right way round -/
structure BxOk (m : Nat) (b : List (Int × Int)) : Prop where
  l : b.length = m
  o : ∀ k, k < m → (ptN b k).1 ≤ (ptN b k).2
def ovW (p q : Int × Int) : Bool := decide (q.1 ≤ p.2) && decide (p.1 ≤ q.2)
def touR (a b : List (Int × Int)) : Nat → Nat → Bool
  | _, 0 => true
  | j, r + 1 => ovW (ptN a j) (ptN b j) && touR a b (j + 1) r
def touB (a b : List (Int × Int)) : Bool := touR a b 0 a.length
theorem common_ok {p q : Int × Int} (hp : p.1 ≤ p.2) (hq : q.1 ≤ q.2) : ∃ d, f_common [.tup [.int p.1, .int p.2], .tup [.int q.1, .int q.2]] = .ok d ∧ isFz d = true ∧ gIsN d .non = some (.bl (!ovW p q)) := by
  obtain ⟨a, b⟩ := p
  obtain ⟨c, d⟩ := q
  have hp : a ≤ b := hp
  have hq : c ≤ d := hq
  unfold ovW
  show ∃ x, f_common [.tup [.int a, .int b], .tup [.int c, .int d]] = .ok x ∧ isFz x = true ∧ gIsN x .non = some (.bl (!(decide (c ≤ b) && decide (a ≤ d))))
  by_cases h : mnI b d < mxI a c
  · have h1 : decide (mnI b d < mxI a c) = true := decide_eq_true h
    refine ⟨.non, ?_, rfl, ?_⟩
    · simp_arith only [f_common, m_common, h1]
    · have : (decide (c ≤ b) && decide (a ≤ d)) = false := by
        rw [Bool.and_eq_false_iff, decide_eq_false_iff_not, decide_eq_false_iff_not]
        unfold mnI mxI at h
        split at h <;> split at h <;> omega
      rw [this]; rfl
  · have h1 : decide (mnI b d < mxI a c) = false := decide_eq_false h
    refine ⟨.tup [.int (mxI a c), .int (mnI b d)], ?_, rfl, ?_⟩
    · simp_arith only [f_common, m_common, h1]
    · have : (decide (c ≤ b) && decide (a ≤ d)) = true := by
        rw [Bool.and_eq_true, decide_eq_true_eq, decide_eq_true_eq]
        unfold mnI mxI at h
        split at h <;> split at h <;> omega
      rw [this]; rfl
theorem tou_step {A B : D} {p q r : D} {j : Int} {x : Bool} {fc : List D → CR} (qc : f_common = fc) (ia : gIx A (.int j) = some p) (ib : gIx B (.int j) = some q) (zp : isFz p = true) (zq : isFz q = true) (fp : freeze p = p) (fq : freeze q = q) (ec : fc [p, q] = .ok r) (zr : isFz r = true) (hn : gIsN r .non = some (.bl (!x))) : l_touch_1 [some A, some B, some (.int j)] = if x = true then .nx [some A, some B, some (.int j)] else .rt (.bl false) [some A, some B, some (.int j)] := by
  unfold l_touch_1
  rw [qc]; clear qc
  cases x with
  | true =>
    have hn : gIsN r .non = some (.bl false) := hn
    simp_arith only [ia, ib, zp, zq, fp, fq, ec, zr, hn]
  | false =>
    have hn : gIsN r .non = some (.bl true) := hn
    simp_arith only [ia, ib, zp, zq, fp, fq, ec, zr, hn]
theorem tou_loop {m : Nat} {a b : List (Int × Int)} (ha : BxOk m a) (hb : BxOk m b) : ∀ (r j : Nat) (x : Option D), j + r = m → ∃ y, forL (gN 2) l_touch_1 (rangeD j r) [some (bF a), some (bF b), x] = if touR a b j r = true then .nx [some (bF a), some (bF b), y] else .rt (.bl false) [some (bF a), some (bF b), y]
  | 0, j, x, _ => ⟨x, rfl⟩
  | r + 1, j, x, h => by
    have ea := ix_sp (l := a) (k := j) (by have := ha.l; omega) false
    have eb := ix_sp (l := b) (k := j) (by have := hb.l; omega) false
    obtain ⟨d, ed, zd, nd⟩ := common_ok (ha.o j (by omega)) (hb.o j (by omega))
    have st := tou_step rfl ea eb rfl rfl rfl rfl ed zd nd
    have gg : gN 2 (.int (j : Int)) [some (bF a), some (bF b), x] = some [some (bF a), some (bF b), some (.int (j : Int))] := rfl
    rw [rangeD_succ, x_fo1, gg]
    show ∃ y, forB (l_touch_1 [some (bF a), some (bF b), some (.int (j : Int))]) _ = _
    have st : l_touch_1 [some (bF a), some (bF b), some (.int (j : Int))] = _ := st
    rw [st]
    cases hq : ovW (ptN a j) (ptN b j) with
    | false =>
      refine ⟨some (.int (j : Int)), ?_⟩
      have : touR a b j (r + 1) = false := by show (ovW _ _ && _) = false; rw [hq]; rfl
      rw [this]; rfl
    | true =>
      obtain ⟨y, ih⟩ := tou_loop ha hb r (j + 1) (some (.int (j : Int))) (by omega)
      refine ⟨y, ?_⟩
      have : touR a b j (r + 1) = touR a b (j + 1) r := by show (ovW _ _ && _) = _; rw [hq]; rfl
      rw [this]
      exact ih
theorem touch_ok {m : Nat} {a b : List (Int × Int)} (m4 : m ≤ 100) (ha : BxOk m a) (hb : BxOk m b) : f_touch [bF a, bF b] = .ok (.bl (touB a b)) := by
  obtain ⟨y, h⟩ := tou_loop ha hb m 0 none (by omega)
  have h : forL (gN 2) l_touch_1 (rangeD 0 m) _ = _ := h
  have hl := ha.l
  have er : w_touch_1 [some (bF a), some (bF b), none] = forL (gN 2) l_touch_1 (rangeD 0 m) [some (bF a), some (bF b), none] := by
    unfold w_touch_1
    have l0 := len_sp a false
    rw [hl] at l0
    refine x_for_range (N := (m : Int)) (n := m) ?_ (by omega) (by omega) (by omega)
    unfold bF
    generalize (m : Int) = mm at *
    generalize a.map spD = A at *
    generalize b.map spD = B at *
    simp_arith only [l0]
  have ht : touB a b = touR a b 0 m := by unfold touB; rw [hl]
  have k : ∃ τ, m_touch [some (bF a), some (bF b), none] = .rt (.bl (touB a b)) τ := by
    unfold m_touch
    rw [ht]
    cases q : touR a b 0 m with
    | true =>
      rw [q, if_pos rfl] at h
      exact ⟨_, x_seq_ok (er.trans h) rfl⟩
    | false =>
      rw [q, if_neg (by decide)] at h
      refine ⟨[some (bF a), some (bF b), y], ?_⟩
      rw [x_seq, er, h]; rfl
  obtain ⟨τ, k⟩ := k
  exact (cF_ok (b := m_touch) (n := 2) (N := 3) (ds := [bF a, bF b]) rfl rfl k).trans rfl
theorem touR_symm (a b : List (Int × Int)) : ∀ (r j : Nat), touR a b j r = touR b a j r
  | 0, _ => rfl
  | r + 1, j => by
    show (ovW _ _ && _) = (ovW _ _ && _)
    rw [touR_symm a b r (j + 1)]
    unfold ovW
    rw [Bool.and_comm (decide _) (decide _)]
theorem touB_symm {m : Nat} {a b : List (Int × Int)} (ha : a.length = m) (hb : b.length = m) : touB a b = touB b a := by unfold touB; rw [ha, hb, touR_symm]
/-! ### the boxes -/
end I
namespace I
/-! ### paths -/
section
variable {n : Nat} {T : Nat → Nat → Bool}
inductive Conn (n : Nat) (T : Nat → Nat → Bool) : Nat → Nat → Prop
  | refl (i : Nat) : Conn n T i i
  | step {i j k : Nat} : Conn n T i j → j < n → k < n → T j k = true → Conn n T i k
theorem Conn.trans {i j k : Nat} (h : Conn n T i j) (q : Conn n T j k) : Conn n T i k := by
  induction q with
  | refl => exact h
  | step _ hj hk ht ih => exact (ih).step hj hk ht
theorem Conn.symm (hs : ∀ i j, i < n → j < n → T i j = true → T j i = true) {i j : Nat} (h : Conn n T i j) : Conn n T j i := by
  induction h with
  | refl => exact .refl _
  | step _ hj hk ht ih => exact ((Conn.refl _).step hk hj (hs _ _ hj hk ht)).trans ih
theorem Conn.lt {i j : Nat} (h : Conn n T i j) (hi : i < n) : j < n := by
  induction h with
  | refl => exact hi
  | step _ _ hk _ _ => exact hk
/-- what is closed under T and holds i holds all that i reaches -/
theorem Conn.closed {i j : Nat} {P : Nat → Prop} (h : Conn n T i j) (hi : P i) (hc : ∀ a b, P a → a < n → b < n → T a b = true → P b) : P j := by
  induction h with
  | refl => exact hi
  | step _ hj hk ht ih => exact hc _ _ ih hj hk ht
/-! ### a set grown from one -/
def scanS (T : Nat → Nat → Bool) (x : Nat) (N : List Nat) (k : Nat) : List Nat := if !N.contains k && T x k then N ++ [k] else N
def scanW (n : Nat) (T : Nat → Nat → Bool) (x : Nat) (N : List Nat) : List Nat := (List.range n).foldl (scanS T x) N
structure Grown (n : Nat) (T : Nat → Nat → Bool) (f : Nat) (N : List Nat) : Prop where
  nd : N.Nodup
  lt : ∀ k ∈ N, k < n
  m : f ∈ N
  c : ∀ k ∈ N, Conn n T f k
theorem Grown.scan {f x : Nat} {N : List Nat} (h : Grown n T f N) (hx : x ∈ N) {k : Nat} (hk : k < n) : Grown n T f (scanS T x N k) ∧ (∃ A, scanS T x N k = N ++ A) ∧ (T x k = true → k ∈ scanS T x N k) := by
  unfold scanS
  cases hc : N.contains k with
  | true =>
    rw [if_neg (by simp)]
    exact ⟨h, ⟨[], by rw [List.append_nil]⟩, fun _ => List.contains_iff_mem.mp hc⟩
  | false =>
    have hm : k ∉ N := fun q => by rw [List.contains_iff_mem.mpr q] at hc; cases hc
    cases ht : T x k with
    | false =>
      rw [if_neg (by simp)]
      exact ⟨h, ⟨[], by rw [List.append_nil]⟩, fun q => by cases q⟩
    | true =>
      rw [if_pos (by simp)]
      refine ⟨⟨?_, fun j hj => ?_, List.mem_append_left _ h.m, fun j hj => ?_⟩, ⟨[k], rfl⟩, fun _ => by simp⟩
      · rw [List.nodup_append]
        exact ⟨h.nd, by simp, fun a ha b hb => by cases List.mem_singleton.mp hb; exact fun e => hm (e ▸ ha)⟩
      · rcases List.mem_append.mp hj with q | q
        · exact h.lt j q
        · cases List.mem_singleton.mp q; exact hk
      · rcases List.mem_append.mp hj with q | q
        · exact h.c j q
        · cases List.mem_singleton.mp q
          exact (h.c x hx).step (h.lt x hx) hk ht
theorem Grown.scans {f x : Nat} : ∀ (ks : List Nat) {N : List Nat}, Grown n T f N → x ∈ N → (∀ k ∈ ks, k < n) → Grown n T f (ks.foldl (scanS T x) N) ∧ (∃ A, ks.foldl (scanS T x) N = N ++ A) ∧ ∀ k ∈ ks, T x k = true → k ∈ ks.foldl (scanS T x) N
  | [], N, h, hx, _ => ⟨h, ⟨[], by rw [List.append_nil]; rfl⟩, fun k hk => by cases hk⟩
  | k :: ks, N, h, hx, hl => by
    obtain ⟨h1, ⟨A, hA⟩, h3⟩ := h.scan hx (hl k List.mem_cons_self)
    obtain ⟨g1, ⟨C, hC⟩, g3⟩ := Grown.scans ks h1 (by rw [hA]; exact List.mem_append_left _ hx) fun k' h' => hl k' (List.mem_cons_of_mem _ h')
    rw [List.foldl_cons]
    refine ⟨g1, ⟨A ++ C, by rw [hC, hA, List.append_assoc]⟩, fun j hj ht => ?_⟩
    rcases List.mem_cons.mp hj with rfl | hj
    · rw [hC]; exact List.mem_append_left _ (h3 ht)
    · exact g3 j hj ht
theorem nodup_len : ∀ (n : Nat) (N : List Nat), N.Nodup → (∀ k ∈ N, k < n) → N.length ≤ n
  | 0, N, _, h => by
    cases N with
    | nil => exact Nat.le_refl _
    | cons k N => exact absurd (h k List.mem_cons_self) (by omega)
  | n + 1, N, nd, h => by
    by_cases c : n ∈ N
    · have ih := nodup_len n (N.erase n) (nd.erase n) fun k hk => by
        have := (nd.mem_erase_iff).mp hk
        have := h k this.2
        omega
      rw [List.length_erase_of_mem c] at ih
      omega
    · have ih := nodup_len n N nd fun k hk => by
        have := h k hk
        have : k ≠ n := fun e => c (e ▸ hk)
        omega
      omega
theorem Grown.len {f : Nat} {N : List Nat} (h : Grown n T f N) : N.length ≤ n := nodup_len n N h.nd h.lt
/-- the walk over what is found so far -/
def grow (n : Nat) (T : Nat → Nat → Bool) : Nat → Nat → List Nat → List Nat
  | 0, _, N => N
  | fuel + 1, a, N => if a < N.length then grow n T fuel (a + 1) (scanW n T (N.getD a 0) N) else N
theorem grow_ok {f : Nat} : ∀ (fuel a : Nat) (N : List Nat), Grown n T f N → n < fuel + a → (∀ i x, i < a → N[i]? = some x → ∀ k, k < n → T x k = true → k ∈ N) → Grown n T f (grow n T fuel a N) ∧ ∀ x ∈ grow n T fuel a N, ∀ k, k < n → T x k = true → k ∈ grow n T fuel a N
  | 0, a, N, h, hf, hc => by
    have hl := h.len
    refine ⟨h, fun x hx k hk ht => ?_⟩
    have hx : x ∈ N := hx
    obtain ⟨i, hi⟩ := List.getElem?_of_mem hx
    have := (List.getElem?_eq_some_iff.mp hi).1
    exact hc i x (by omega) hi k hk ht
  | fuel + 1, a, N, h, hf, hc => by
    unfold grow
    by_cases ha : a < N.length
    · rw [if_pos ha]
      have hg : N.getD a 0 = N[a] := by rw [List.getD_eq_getElem?_getD, List.getElem?_eq_getElem ha]; rfl
      have hx : N.getD a 0 ∈ N := by rw [hg]; exact List.getElem_mem ha
      obtain ⟨g1, ⟨A, hA⟩, g3⟩ := Grown.scans (List.range n) h hx fun k hk => List.mem_range.mp hk
      have e : scanW n T (N.getD a 0) N = N ++ A := hA
      refine grow_ok fuel (a + 1) _ g1 (by omega) fun i x hi hl k hk ht => ?_
      have hl2 : N[i]? = some x := by
        have hl : (scanW n T (N.getD a 0) N)[i]? = some x := hl
        rw [e, List.getElem?_append_left (by omega)] at hl
        exact hl
      clear hl
      by_cases q : i = a
      · subst q
        rw [List.getElem?_eq_getElem ha] at hl2
        rw [← Option.some.inj hl2, ← hg] at ht
        exact g3 k (List.mem_range.mpr hk) ht
      · show k ∈ scanW n T (N.getD a 0) N
        rw [e]
        exact List.mem_append_left _ (hc i x (by omega) hl2 k hk ht)
    · rw [if_neg ha]
      refine ⟨h, fun x hx k hk ht => ?_⟩
      obtain ⟨i, hi⟩ := List.getElem?_of_mem hx
      have := (List.getElem?_eq_some_iff.mp hi).1
      exact hc i x (by omega) hi k hk ht
theorem grown_one {f : Nat} (hf : f < n) : Grown n T f [f] := ⟨by simp, fun k hk => by cases List.mem_singleton.mp hk; exact hf, by simp, fun k hk => by cases List.mem_singleton.mp hk; exact .refl _⟩
theorem grow_mem {f : Nat} (hf : f < n) (k : Nat) : k ∈ grow n T (n + 1) 0 [f] ↔ Conn n T f k := by
  obtain ⟨h1, h2⟩ := grow_ok (n + 1) 0 [f] (grown_one (T := T) hf) (by omega) fun i x hi => by omega
  exact ⟨h1.c k, fun q => q.closed h1.m fun a b ha _ hb ht => h2 a ha b hb ht⟩
/-! ### marks -/
structure Lab (n : Nat) (T : Nat → Nat → Bool) (a : Nat) (M : Nat → Nat) : Prop where
  le : ∀ k, k < a → M k ≤ k ∧ M (M k) = M k
  t : ∀ i j, i < a → j < a → T i j = true → M i = M j
  c : ∀ k, k < a → Conn n T (M k) k
def mineW (T : Nat → Nat → Bool) (M : Nat → Nat) (a : Nat) : List Nat := ((List.range a).filter fun k => T k a).map M ++ [a]
def leastW : List Nat → Nat
  | [] => 0
  | [x] => x
  | x :: y :: r => min x (leastW (y :: r))
theorem leastW_le : ∀ {l : List Nat} {x : Nat}, x ∈ l → leastW l ≤ x
  | [x], y, h => by cases List.mem_singleton.mp h; exact Nat.le_refl _
  | x :: y :: r, z, h => by
    show min x (leastW (y :: r)) ≤ z
    rcases List.mem_cons.mp h with rfl | h
    · exact Nat.min_le_left _ _
    · exact Nat.le_trans (Nat.min_le_right _ _) (leastW_le h)
theorem leastW_mem : ∀ {l : List Nat}, l ≠ [] → leastW l ∈ l
  | [x], _ => List.mem_singleton.mpr rfl
  | x :: y :: r, _ => by
    show min x (leastW (y :: r)) ∈ _
    have h := leastW_mem (l := y :: r) (by simp)
    by_cases c : x ≤ leastW (y :: r)
    · rw [Nat.min_eq_left c]; exact List.mem_cons_self
    · rw [Nat.min_eq_right (by omega)]; exact List.mem_cons_of_mem _ h
def nextM (T : Nat → Nat → Bool) (M : Nat → Nat) (a k : Nat) : Nat := if k = a then leastW (mineW T M a) else if (mineW T M a).contains (M k) then leastW (mineW T M a) else M k
theorem Lab.next {a : Nat} {M : Nat → Nat} (h : Lab n T a M) (ha : a < n) (hs : ∀ i j, i < n → j < n → T i j = true → T j i = true) : Lab n T (a + 1) (nextM T M a) := by
  obtain ⟨mine, hm⟩ : ∃ l, mineW T M a = l := ⟨_, rfl⟩
  have hne : mine ≠ [] := by rw [← hm]; unfold mineW; simp
  obtain ⟨l, hl⟩ : ∃ l, leastW mine = l := ⟨_, rfl⟩
  have lm : l ∈ mine := by rw [← hl]; exact leastW_mem hne
  have ll : ∀ x ∈ mine, l ≤ x := fun x hx => by rw [← hl]; exact leastW_le hx
  have am : a ∈ mine := by rw [← hm]; unfold mineW; simp
  have inm : ∀ x, x ∈ mine ↔ (∃ k, k < a ∧ T k a = true ∧ M k = x) ∨ x = a := fun x => by
    rw [← hm]; unfold mineW
    simp only [List.mem_append, List.mem_map, List.mem_filter, List.mem_range, List.mem_singleton]
    constructor
    · rintro (⟨k, ⟨h1, h2⟩, h3⟩ | h)
      · exact .inl ⟨k, h1, h2, h3⟩
      · exact .inr h
    · rintro (⟨k, h1, h2, h3⟩ | h)
      · exact .inl ⟨k, ⟨h1, h2⟩, h3⟩
      · exact .inr h
  have N : ∀ k, nextM T M a k = if k = a then l else if mine.contains (M k) then l else M k := fun k => by unfold nextM; rw [hm, hl]
  have Na : nextM T M a a = l := by rw [N, if_pos rfl]
  have Nin : ∀ k, k < a → M k ∈ mine → nextM T M a k = l := fun k hk q => by rw [N, if_neg (by omega), if_pos (List.contains_iff_mem.mpr q)]
  have Nout : ∀ k, k < a → M k ∉ mine → nextM T M a k = M k := fun k hk q => by
    rw [N, if_neg (by omega), if_neg (fun z => q (List.contains_iff_mem.mp z))]
  have la : l ≤ a := ll a am
  have Nl : nextM T M a l = l := by
    by_cases q : l = a
    · rw [q]; rw [← q]; rw [q]; rw [Na]; exact q
    · have hlt : l < a := by omega
      rcases (inm l).mp lm with ⟨k, k1, k2, k3⟩ | z
      · have : M l = l := by rw [← k3]; exact (h.le k k1).2
        exact Nin l hlt (by rw [this]; exact lm)
      · exact absurd z q
  -- what touches a reaches a
  have toA : ∀ x ∈ mine, Conn n T x a := fun x hx => by
    rcases (inm x).mp hx with ⟨k, k1, k2, k3⟩ | rfl
    · have := h.c k k1
      rw [k3] at this
      exact this.step (by omega) ha k2
    · exact .refl _
  refine ⟨fun k hk => ?_, fun i j hi hj ht => ?_, fun k hk => ?_⟩
  · by_cases q : k = a
    · subst q
      rw [Na]
      exact ⟨la, Nl⟩
    · have hk : k < a := by omega
      by_cases z : M k ∈ mine
      · rw [Nin k hk z]
        exact ⟨Nat.le_trans (ll _ z) (h.le k hk).1, Nl⟩
      · rw [Nout k hk z]
        have lt : M k < a := by have := (h.le k hk).1; omega
        refine ⟨(h.le k hk).1, ?_⟩
        have e : M (M k) = M k := (h.le k hk).2
        rw [Nout (M k) lt (by rw [e]; exact z), e]
  · have key : ∀ i, i < a → T i a = true → nextM T M a i = l := fun i hi ht => Nin i hi ((inm _).mpr (.inl ⟨i, hi, ht, rfl⟩))
    by_cases q : i = a
    · by_cases z : j = a
      · rw [q, z]
      · rw [q, Na, key j (by omega) (by rw [q] at ht; exact hs _ _ (by omega) (by omega) ht)]
    · by_cases z : j = a
      · rw [z, Na, key i (by omega) (by rw [z] at ht; exact ht)]
      · have e := h.t i j (by omega) (by omega) ht
        by_cases y : M i ∈ mine
        · rw [Nin i (by omega) y, Nin j (by omega) (by rw [← e]; exact y)]
        · rw [Nout i (by omega) y, Nout j (by omega) (by rw [← e]; exact y), e]
  · by_cases q : k = a
    · subst q
      rw [Na]
      exact toA l lm
    · have hk : k < a := by omega
      by_cases z : M k ∈ mine
      · rw [Nin k hk z]
        exact ((toA l lm).trans ((toA _ z).symm hs)).trans (h.c k hk)
      · rw [Nout k hk z]
        exact h.c k hk
def marksF (T : Nat → Nat → Bool) : Nat → Nat → Nat
  | 0 => fun _ => 0
  | a + 1 => nextM T (marksF T a) a
theorem marks_ok (hs : ∀ i j, i < n → j < n → T i j = true → T j i = true) : ∀ a, a ≤ n → Lab n T a (marksF T a)
  | 0, _ => ⟨fun k hk => by omega, fun i j hi => by omega, fun k hk => by omega⟩
  | a + 1, h => (marks_ok hs a (by omega)).next (by omega) hs
theorem Lab.conn {M : Nat → Nat} (h : Lab n T n M) (hs : ∀ i j, i < n → j < n → T i j = true → T j i = true) {i j : Nat} (hi : i < n) (hj : j < n) : Conn n T i j ↔ M i = M j := by
  constructor
  · intro q
    have key : M j = M i := q.closed (P := fun x => M x = M i) rfl fun a b ha la lb ht => by rw [← ha]; exact (h.t a b la lb ht).symm
    exact key.symm
  · intro q
    exact ((h.c i hi).symm hs).trans (q ▸ h.c j hj)
end


end I
namespace I
/-! ### numbers -/
def nI (k : Nat) : D := .int (k : Int)
theorem fz_nI (N : List Nat) : freezeL (N.map nI) = N.map nI := fz_map (fun _ => rfl) N
theorem in_nats (k : Nat) (N : List Nat) (m neg : Bool) : gIn neg (.int (k : Int)) (.lst m (N.map nI)) = some (.bl (if neg = true then !N.contains k else N.contains k)) := by
  show (if flatD (.int (k : Int)) = true ∧ (N.map nI).all flatD = true then some (D.bl (if neg = true then !L2.inV (toV (.int (k : Int))) ((N.map nI).map toV) else L2.inV (toV (.int (k : Int))) ((N.map nI).map toV))) else none) = _
  rw [if_pos ⟨rfl, by rw [List.all_map]; exact List.all_eq_true.mpr fun _ _ => rfl⟩]
  have e : L2.inV (toV (.int (k : Int))) ((N.map nI).map toV) = N.contains k := by
    unfold L2.inV
    rw [List.map_map, List.any_map]
    have h : ∀ y : Nat, (L2.eqV (toV (nI y)) (toV (.int (k : Int)))) = (k == y) := fun y => by
      show (((y : Int)) == ((k : Int))) = (k == y)
      rw [Bool.eq_iff_iff, beq_iff_eq, beq_iff_eq]
      omega
    rw [List.contains_eq_any_beq]
    exact List.any_congr rfl fun y => h y
  rw [e]
theorem strict_eq : ∀ {l1 l2 : List Int}, l1.Pairwise (· < ·) → l2.Pairwise (· < ·) → (∀ x, x ∈ l1 ↔ x ∈ l2) → l1 = l2
  | [], [], _, _, _ => rfl
  | [], y :: l2, _, _, h => by have := (h y).mpr List.mem_cons_self; cases this
  | x :: l1, [], _, _, h => by have := (h x).mp List.mem_cons_self; cases this
  | x :: l1, y :: l2, h1, h2, h => by
    obtain ⟨a1, a2⟩ := List.pairwise_cons.mp h1
    obtain ⟨b1, b2⟩ := List.pairwise_cons.mp h2
    have e : x = y := by
      rcases List.mem_cons.mp ((h x).mp List.mem_cons_self) with q | q
      · exact q
      · rcases List.mem_cons.mp ((h y).mpr List.mem_cons_self) with z | z
        · exact z.symm
        · have := b1 x q; have := a1 y z; omega
    subst e
    refine congrArg (x :: ·) (strict_eq a2 b2 fun z => ⟨fun q => ?_, fun q => ?_⟩)
    · rcases List.mem_cons.mp ((h z).mp (List.mem_cons_of_mem _ q)) with w | w
      · have := a1 z q; omega
      · exact w
    · rcases List.mem_cons.mp ((h z).mpr (List.mem_cons_of_mem _ q)) with w | w
      · have := b1 z q; omega
      · exact w
theorem sort_nats {N : List Nat} (nd : N.Nodup) {n : Nat} {P : Nat → Bool} (h : ∀ k, k ∈ N ↔ k < n ∧ P k = true) : sortI (N.map fun k : Nat => (k : Int)) = ((List.range n).filter P).map fun k : Nat => (k : Int) := by
  refine strict_eq ?_ ?_ fun x => ?_
  · have s := sortI_sorted (N.map fun k : Nat => (k : Int))
    have nd2 : (sortI (N.map fun k : Nat => (k : Int))).Nodup := (sortI_perm _).nodup_iff.mpr (by
      rw [List.Nodup, List.pairwise_map]
      exact nd.imp fun {a b} q => by omega)
    exact (s.and nd2).imp fun {a b} q => by obtain ⟨q1, q2⟩ := q; omega
  · rw [List.pairwise_map]
    exact (List.Pairwise.filter _ List.pairwise_lt_range).imp fun {a b} q => by omega
  · rw [(sortI_perm _).mem_iff, List.mem_map, List.mem_map]
    constructor
    · rintro ⟨k, hk, e⟩
      obtain ⟨h1, h2⟩ := (h k).mp hk
      exact ⟨k, List.mem_filter.mpr ⟨List.mem_range.mpr h1, h2⟩, e⟩
    · rintro ⟨k, hk, e⟩
      obtain ⟨h1, h2⟩ := List.mem_filter.mp hk
      exact ⟨k, (h k).mpr ⟨List.mem_range.mp h1, h2⟩, e⟩
theorem ints_nats (N : List Nat) : intsOf (N.map nI) = some (N.map fun k : Nat => (k : Int)) := by
  have := ints_map (N.map fun k : Nat => (k : Int))
  rw [List.map_map] at this
  exact this
/-! ### the walk of a grown set -/
section
variable {n m : Nat} {Bs : List (List (Int × Int))}
def bx (Bs : List (List (Int × Int))) (i : Nat) : List (Int × Int) := Bs.getD i []
def TT (Bs : List (List (Int × Int))) (i j : Nat) : Bool := touB (bx Bs i) (bx Bs j)
structure BsOk (m n : Nat) (Bs : List (List (Int × Int))) : Prop where
  l : Bs.length = n
  n63 : n ≤ 63
  m1 : 1 ≤ m
  m4 : m ≤ 10
  b : ∀ i, i < n → BxOk m (bx Bs i)
theorem ix_bs (h : BsOk m n Bs) {i : Nat} (hi : i < n) (mm : Bool) : gIx (.lst mm (Bs.map bF)) (.int (i : Int)) = some (bF (bx Bs i)) := vIxL_of (k := i) rfl (by
  have := h.l
  unfold bx
  rw [List.getElem?_map, List.getD_eq_getElem?_getD, List.getElem?_eq_getElem (by omega)]; rfl)
theorem TT_symm (h : BsOk m n Bs) (i j : Nat) (hi : i < n) (hj : j < n) (ht : TT Bs i j = true) : TT Bs j i = true := by
  unfold TT at *
  rw [touB_symm (h.b j hj).l (h.b i hi).l]
  exact ht
theorem gr_no {BS N : List D} {f a k : Int} (hin : gIn true (.int k) (.lst true N) = some (.bl false)) : l_grown_from_1 [some (.lst false BS), some (.int f), some (.lst true N), some (.int a), some (.int k)] = .nx [some (.lst false BS), some (.int f), some (.lst true N), some (.int a), some (.int k)] := by
  unfold l_grown_from_1
  simp_arith only [hin]
theorem gr_yes {BS N : List D} {f a k x : Int} {p q : D} {t : Bool} {ft : List D → CR} (qt : f_touch = ft) (hin : gIn true (.int k) (.lst true N) = some (.bl true)) (ia : gIx (.lst true N) (.int a) = some (.int x)) (ix : gIx (.lst false BS) (.int x) = some p) (ik : gIx (.lst false BS) (.int k) = some q) (zp : isFz p = true) (zq : isFz q = true) (fp : freeze p = p) (fq : freeze q = q) (et : ft [p, q] = .ok (.bl t)) (hl : N.length < 1000000) : l_grown_from_1 [some (.lst false BS), some (.int f), some (.lst true N), some (.int a), some (.int k)] = .nx [some (.lst false BS), some (.int f), some (.lst true (if t = true then N ++ [.int k] else N)), some (.int a), some (.int k)] := by
  unfold l_grown_from_1
  rw [qt]; clear qt
  cases t with
  | true => simp_arith only [hin, ia, ix, ik, zp, zq, fp, fq, et, hl]
  | false => simp_arith only [hin, ia, ix, ik, zp, zq, fp, fq, et, hl]
theorem gr_step (h : BsOk m n Bs) {N : List Nat} {f : Int} {a k x : Nat} (ha : N[a]? = some x) (hx : x < n) (hk : k < n) (hl : N.length < 900000) : l_grown_from_1 [some (.lst false (Bs.map bF)), some (.int f), some (.lst true (N.map nI)), some (.int (a : Int)), some (.int (k : Int))] = .nx [some (.lst false (Bs.map bF)), some (.int f), some (.lst true ((scanS (TT Bs) x N k).map nI)), some (.int (a : Int)), some (.int (k : Int))] := by
  have hin := in_nats k N true true
  unfold scanS
  cases hc : N.contains k with
  | true =>
    rw [hc] at hin
    rw [if_neg (by simp)]
    exact gr_no hin
  | false =>
    rw [hc] at hin
    have ia : gIx (.lst true (N.map nI)) (.int (a : Int)) = some (.int (x : Int)) := vIxL_of (k := a) rfl (by rw [List.getElem?_map, ha]; rfl)
    have et := touch_ok (by have := h.m4; omega) (h.b x hx) (h.b k hk)
    have st := gr_yes (f := f) rfl hin ia (ix_bs h hx false) (ix_bs h hk false) rfl rfl rfl rfl et (by rw [List.length_map]; omega)
    rw [st]
    show SR.nx [_, _, some (.lst true (if TT Bs x k = true then _ else _)), _, _] = _
    cases TT Bs x k with
    | true => rw [if_pos rfl, if_pos (by simp), List.map_append]; rfl
    | false => rw [if_neg (by decide), if_neg (by simp)]
theorem gr_loop (h : BsOk m n Bs) {f : Int} {a x : Nat} (hx : x < n) : ∀ (r j : Nat) (N : List Nat) (x4 : Option D), j + r = n → N[a]? = some x → N.length + r < 900000 → ∃ y4, forL (gN 4) l_grown_from_1 (rangeD j r) [some (.lst false (Bs.map bF)), some (.int f), some (.lst true (N.map nI)), some (.int (a : Int)), x4] = .nx [some (.lst false (Bs.map bF)), some (.int f), some (.lst true (((List.range' j r).foldl (scanS (TT Bs) x) N).map nI)), some (.int (a : Int)), y4]
  | 0, j, N, x4, _, _, _ => ⟨x4, rfl⟩
  | r + 1, j, N, x4, hj, ha, hl => by
    have st := gr_step (f := f) h ha hx (k := j) (by omega) (by omega)
    have hs : (scanS (TT Bs) x N j)[a]? = some x ∧ (scanS (TT Bs) x N j).length ≤ N.length + 1 := by
      unfold scanS
      split
      · exact ⟨by rw [List.getElem?_append_left (List.getElem?_eq_some_iff.mp ha).1]; exact ha, by simp⟩
      · exact ⟨ha, by omega⟩
    obtain ⟨y4, ih⟩ := gr_loop h (f := f) (a := a) hx r (j + 1) (scanS (TT Bs) x N j) (some (.int (j : Int))) (by omega) hs.1 (by omega)
    refine ⟨y4, ?_⟩
    rw [rangeD_succ, x_fo1]
    show forB (l_grown_from_1 [some (.lst false (Bs.map bF)), some (.int f), some (.lst true (N.map nI)), some (.int (a : Int)), some (.int (j : Int))]) _ = _
    rw [st, List.range'_succ, List.foldl_cons]
    exact ih
theorem gr_while (h : BsOk m n Bs) {f0 : Nat} {f : Int} : ∀ (fuel a : Nat) (N : List Nat) (x4 : Option D), Grown n (TT Bs) f0 N → n < fuel + a → a ≤ 900 → ∃ y3 y4, whileM (tZ (Bn.z2 gLt (zVar 3) (zC' gLen (zaCons (zVar 2) zaNil)))) (sSeq w_grown_from_1 (sAsg (eZ (Bn.z2 gAdd (zVar 3) (zC (.int 1)))) (gN 3))) (fuel + 1) [some (.lst false (Bs.map bF)), some (.int f), some (.lst true (N.map nI)), some (.int (a : Int)), x4] = .nx [some (.lst false (Bs.map bF)), some (.int f), some (.lst true ((grow n (TT Bs) fuel a N).map nI)), y3, y4]
  | fuel, a, N, x4, g, hf, h9 => by
    have n63 := h.n63
    have gl := g.len
    have hln : gLen [.lst true (N.map nI)] = some (.int (N.length : Int)) := by rw [vLenL, List.length_map]
    by_cases c : a < N.length
    · have d : decide ((a : Int) < (N.length : Int)) = true := decide_eq_true (by omega)
      cases fuel with
      | zero => omega
      | succ fuel =>
        have ha : N[a]? = some N[a] := List.getElem?_eq_getElem c
        have hx : N[a] < n := g.lt _ (List.getElem_mem c)
        obtain ⟨y4, hw⟩ := gr_loop h (f := f) hx n 0 N x4 (by omega) ha (by omega)
        have hw : forL (gN 4) l_grown_from_1 (rangeD 0 n) _ = _ := hw
        have er : (List.range' 0 n).foldl (scanS (TT Bs) N[a]) N = scanW n (TT Bs) N[a] N := by unfold scanW; rw [List.range_eq_range']
        rw [er] at hw
        obtain ⟨g1, _, _⟩ := Grown.scans (List.range n) g (List.getElem_mem c) fun k hk => List.mem_range.mp hk
        have g1 : Grown n (TT Bs) f0 (scanW n (TT Bs) N[a] N) := g1
        obtain ⟨z3, z4, ih⟩ := gr_while h (f := f) fuel (a + 1) (scanW n (TT Bs) N[a] N) y4 g1 (by omega) (by omega)
        refine ⟨z3, z4, ?_⟩
        have lB : gLen [.lst false (Bs.map bF)] = some (.int (n : Int)) := by rw [vLenL, List.length_map, h.l]
        have w1 : w_grown_from_1 [some (.lst false (Bs.map bF)), some (.int f), some (.lst true (N.map nI)), some (.int (a : Int)), x4] = .nx [some (.lst false (Bs.map bF)), some (.int f), some (.lst true ((scanW n (TT Bs) N[a] N).map nI)), some (.int (a : Int)), y4] := by
          unfold w_grown_from_1
          rw [x_for_range (N := (n : Int)) (n := n) (τ1 := [some (.lst false (Bs.map bF)), some (.int f), some (.lst true (N.map nI)), some (.int (a : Int)), x4]) ?_ (by omega) (by omega) (by omega)]
          · exact hw
          · generalize Bs.map bF = BS at *
            generalize N.map nI = NN at *
            simp_arith only [lB]
        have hg : grow n (TT Bs) (fuel + 1) a N = grow n (TT Bs) fuel (a + 1) (scanW n (TT Bs) N[a] N) := by
          show (if a < N.length then _ else _) = _
          rw [if_pos c, List.getD_eq_getElem?_getD, ha]; rfl
        rw [hg]
        rw [Int.natCast_succ] at ih
        have b1 : (sSeq w_grown_from_1 (sAsg (eZ (Bn.z2 gAdd (zVar 3) (zC (.int 1)))) (gN 3))) [some (.lst false (Bs.map bF)), some (.int f), some (.lst true (N.map nI)), some (.int (a : Int)), x4] = .nx [some (.lst false (Bs.map bF)), some (.int f), some (.lst true ((scanW n (TT Bs) N[a] N).map nI)), some (.int ((a : Int) + 1)), y4] := x_seq_ok w1 (by
          generalize Bs.map bF = BS at *
          generalize (scanW n (TT Bs) N[a] N).map nI = NN at *
          simp_arith only [x_seq])
        have t1 : (tZ (Bn.z2 gLt (zVar 3) (zC' gLen (zaCons (zVar 2) zaNil)))) [some (.lst false (Bs.map bF)), some (.int f), some (.lst true (N.map nI)), some (.int (a : Int)), x4] = .ok true [some (.lst false (Bs.map bF)), some (.int f), some (.lst true (N.map nI)), some (.int (a : Int)), x4] := by
          generalize Bs.map bF = BS at *
          generalize N.map nI = NN at *
          simp_arith only [hln, d]
        rw [x_wh, t1, x_wh1, b1, x_fo3]
        exact ih
    · have d : decide ((a : Int) < (N.length : Int)) = false := decide_eq_false (by omega)
      have hg : grow n (TT Bs) fuel a N = N := by
        cases fuel with
        | zero => rfl
        | succ fuel => show (if a < N.length then _ else _) = _; rw [if_neg c]
      rw [hg]
      have t1 : (tZ (Bn.z2 gLt (zVar 3) (zC' gLen (zaCons (zVar 2) zaNil)))) [some (.lst false (Bs.map bF)), some (.int f), some (.lst true (N.map nI)), some (.int (a : Int)), x4] = .ok false [some (.lst false (Bs.map bF)), some (.int f), some (.lst true (N.map nI)), some (.int (a : Int)), x4] := by
        generalize Bs.map bF = BS at *
        generalize N.map nI = NN at *
        simp_arith only [hln, d]
      exact ⟨_, _, by rw [x_wh, t1, x_wh2]⟩
def mk (Bs : List (List (Int × Int))) (k : Nat) : Nat := marksF (TT Bs) Bs.length k
/-- the numbers that are marked as f -/
def compW (Bs : List (List (Int × Int))) (f : Nat) : List Nat := (List.range Bs.length).filter fun k => mk Bs k == f
theorem lab_ok (h : BsOk m n Bs) : Lab n (TT Bs) n (mk Bs) := by
  have := marks_ok (n := n) (T := TT Bs) (TT_symm h) n (Nat.le_refl _)
  unfold mk
  rw [h.l]
  exact this
theorem grown_ok (h : BsOk m n Bs) {f : Nat} (hf : f < n) (hM : mk Bs f = f) : f_grown_from [.lst false (Bs.map bF), .int (f : Int)] = .ok (.lst true ((compW Bs f).map nI)) := by
  have lab := lab_ok h
  have hg := grown_one (T := TT Bs) hf
  obtain ⟨y3, y4, hw⟩ := gr_while h (f := (f : Int)) (n + 1) 0 [f] none hg (by omega) (by omega)
  obtain ⟨g1, g2⟩ := grow_ok (n + 1) 0 [f] hg (by omega) fun i x hi => by omega
  have hm := fun k => grow_mem (T := TT Bs) hf k
  obtain ⟨G, hG⟩ : ∃ G, grow n (TT Bs) (n + 1) 0 [f] = G := ⟨_, rfl⟩
  rw [hG] at hw g1 hm
  have hs : sortI (G.map fun k : Nat => (k : Int)) = (compW Bs f).map fun k : Nat => (k : Int) := by
    unfold compW
    rw [h.l]
    refine sort_nats g1.nd fun k => ?_
    rw [hm k]
    constructor
    · intro q
      have hk := q.lt hf
      have := (lab.conn (TT_symm h) hf hk).mp q
      exact ⟨hk, by rw [← this, hM]; simp⟩
    · rintro ⟨hk, q⟩
      have q : mk Bs k = f := by simpa using q
      exact (lab.conn (TT_symm h) hf hk).mpr (by rw [hM, q])
  have em : (compW Bs f).map nI = ((compW Bs f).map fun k : Nat => (k : Int)).map D.int := by rw [List.map_map]; rfl
  have fl : fuel_grown_from1 [some (.lst false (Bs.map bF)), some (.int (f : Int)), some (.lst true [nI f]), some (.int 0), none] = (n + 1) + 1 := by
    show (Bs.map bF).length + 2 = _
    rw [List.length_map, h.l]
  have w : sWhile fuel_grown_from1 (tZ (Bn.z2 gLt (zVar 3) (zC' gLen (zaCons (zVar 2) zaNil)))) (sSeq w_grown_from_1 (sAsg (eZ (Bn.z2 gAdd (zVar 3) (zC (.int 1)))) (gN 3))) [some (.lst false (Bs.map bF)), some (.int (f : Int)), some (.lst true [nI f]), some (.int 0), none] = .nx [some (.lst false (Bs.map bF)), some (.int (f : Int)), some (.lst true (G.map nI)), y3, y4] := by
    rw [x_wh0, fl]
    exact hw
  have fG := fz_nI G
  have iG := ints_nats G
  have u3 : u_grown_from_3 [some (.lst false (Bs.map bF)), some (.int (f : Int)), some (.lst true (G.map nI)), y3, y4] = .rt (.lst true ((compW Bs f).map nI)) [some (.lst false (Bs.map bF)), some (.int (f : Int)), some (.lst false (G.map nI)), y3, y4] := by
    rw [em, ← hs]
    generalize (G.map fun k : Nat => (k : Int)) = GI at *
    generalize G.map nI = GG at *
    generalize Bs.map bF = BS at *
    simp_arith only [u_grown_from_3, fG, iG]
  have k : m_grown_from [some (.lst false (Bs.map bF)), some (.int (f : Int)), none, none, none] = .rt (.lst true ((compW Bs f).map nI)) [some (.lst false (Bs.map bF)), some (.int (f : Int)), some (.lst false (G.map nI)), y3, y4] := x_seq_ok (τ1 := [some (.lst false (Bs.map bF)), some (.int (f : Int)), some (.lst true [nI f]), none, none]) rfl (x_seq_ok (τ1 := [some (.lst false (Bs.map bF)), some (.int (f : Int)), some (.lst true [nI f]), some (.int 0), none]) rfl (x_seq_ok w u3))
  exact (cF_ok (b := m_grown_from) (n := 2) (N := 5) (ds := [.lst false (Bs.map bF), .int (f : Int)]) rfl rfl k).trans rfl
end


end I
namespace I
/-! ### the hull -/
section
variable {n m : Nat} {Bs : List (List (Int × Int))}
def hlW (m : Nat) (s b : List (Int × Int)) : List (Int × Int) := (List.range m).map fun k => (mnI (ptN s k).1 (ptN b k).1, mxI (ptN s k).2 (ptN b k).2)
def endK (Bs : List (List (Int × Int))) (k : Nat) : List Nat → Int × Int
  | [] => (0, 0)
  | i :: r => (minI (ptN (bx Bs i) k).1 (r.map fun j => (ptN (bx Bs j) k).1), maxI (ptN (bx Bs i) k).2 (r.map fun j => (ptN (bx Bs j) k).2))
def endsW (m : Nat) (Bs : List (List (Int × Int))) (N : List Nat) : List (Int × Int) := (List.range m).map fun k => endK Bs k N
theorem ptN_map (m : Nat) (f : Nat → Int × Int) {k : Nat} (hk : k < m) : ptN ((List.range m).map f) k = f k := by
  unfold ptN
  rw [List.getD_eq_getElem?_getD, List.getElem?_map, List.getElem?_range hk]; rfl
theorem list_of_pt {l : List (Int × Int)} {m : Nat} (h : l.length = m) : l = (List.range m).map fun k => ptN l k := by
  refine List.ext_getElem? fun k => ?_
  rw [List.getElem?_map]
  by_cases hk : k < m
  · rw [List.getElem?_range hk, List.getElem?_eq_getElem (by omega)]
    show _ = some (ptN l k)
    unfold ptN
    rw [List.getD_eq_getElem?_getD, List.getElem?_eq_getElem (by omega)]; rfl
  · rw [List.getElem?_eq_none (by omega), List.getElem?_eq_none (by rw [List.length_range]; omega)]; rfl
theorem fold_hull (m : Nat) (Bs : List (List (Int × Int))) {k : Nat} (hk : k < m) : ∀ (N : List Nat) (s : List (Int × Int)), ptN (N.foldl (fun s i => hlW m s (bx Bs i)) s) k = (minI (ptN s k).1 (N.map fun j => (ptN (bx Bs j) k).1), maxI (ptN s k).2 (N.map fun j => (ptN (bx Bs j) k).2))
  | [], s => rfl
  | i :: N, s => by
    rw [List.foldl_cons, fold_hull m Bs hk N, List.map_cons, List.map_cons]
    have e : ptN (hlW m s (bx Bs i)) k = (mnI (ptN s k).1 (ptN (bx Bs i) k).1, mxI (ptN s k).2 (ptN (bx Bs i) k).2) := ptN_map m _ hk
    rw [e]
    rfl
theorem fold_len (m : Nat) (Bs : List (List (Int × Int))) : ∀ (N : List Nat) (s : List (Int × Int)), s.length = m → (N.foldl (fun s i => hlW m s (bx Bs i)) s).length = m
  | [], s, h => h
  | i :: N, s, _ => by
    rw [List.foldl_cons]
    exact fold_len m Bs N _ (by unfold hlW; rw [List.length_map, List.length_range])
theorem mn_self (a : Int) : mnI a a = a := by unfold mnI; split <;> rfl
theorem mx_self (a : Int) : mxI a a = a := by unfold mxI; split <;> rfl
theorem hull_ends (m : Nat) {Bs : List (List (Int × Int))} {i : Nat} {r : List Nat} (hl : (bx Bs i).length = m) : (i :: r).foldl (fun s i => hlW m s (bx Bs i)) (bx Bs i) = endsW m Bs (i :: r) := by
  rw [list_of_pt (fold_len m Bs (i :: r) (bx Bs i) hl)]
  unfold endsW
  refine List.map_congr_left fun k hk => ?_
  have hk : k < m := List.mem_range.mp hk
  rw [fold_hull m Bs hk]
  show (minI (mnI _ _) _, maxI (mxI _ _) _) = _
  rw [mn_self, mx_self]
  rfl
theorem hull_one (p q : Int × Int) : f_hull [.tup [.int p.1, .int p.2], .tup [.int q.1, .int q.2]] = .ok (spD (mnI p.1 q.1, mxI p.2 q.2)) := by
  obtain ⟨a, b⟩ := p
  obtain ⟨c, d⟩ := q
  simp_arith only [f_hull, m_hull, spD]
theorem hull_step (h : BsOk m n Bs) {N : List Nat} {s : List (Int × Int)} (hs : s.length = m) {i : Nat} (hi : i < n) {x4 : Option D} : l_hull_of_1 [some (.lst false (Bs.map bF)), some (.lst false (N.map nI)), some (.lst true (s.map spD)), some (.int (i : Int)), none] = .nx [some (.lst false (Bs.map bF)), some (.lst false (N.map nI)), some (.lst true ((hlW m s (bx Bs i)).map spD)), some (.int (i : Int)), none] := by
  have m4 := h.m4
  have e := lc_pickx (own := [4]) (g := gN 4) (t := tTrue) (m := eCall f_hull (aCons (eZ (Bn.z2 gIx (zVar 2) (zVar 4))) (aCons (eZ (Bn.z2 gIx (Bn.z2 gIx (zVar 0) (zVar 3)) (zVar 4))) aNil))) [some (.lst false (Bs.map bF)), some (.lst false (N.map nI)), some (.lst true (s.map spD)), some (.int (i : Int)), none] (fun k : Nat => D.int (0 + (k : Int))) (fun _ => true) (fun k => spD (mnI (ptN s k).1 (ptN (bx Bs i) k).1, mxI (ptN s k).2 (ptN (bx Bs i) k).2)) (List.range m) [] (by rw [List.length_nil, List.length_range]; omega) fun k hk => by
    have hk : k < m := List.mem_range.mp hk
    refine ⟨[some (.lst false (Bs.map bF)), some (.lst false (N.map nI)), some (.lst true (s.map spD)), some (.int (i : Int)), some (.int (0 + (k : Int)))], [some (.lst false (Bs.map bF)), some (.lst false (N.map nI)), some (.lst true (s.map spD)), some (.int (i : Int)), some (.int (0 + (k : Int)))], rfl, rfl, rfl, fun _ => ⟨[some (.lst false (Bs.map bF)), some (.lst false (N.map nI)), some (.lst true (s.map spD)), some (.int (i : Int)), some (.int (0 + (k : Int)))], ?_, rfl⟩⟩
    rw [Int.zero_add]
    have i1 := ix_sp (l := s) (k := k) (by omega) true
    have i2 := ix_bs h hi false
    have i3 : gIx (bF (bx Bs i)) (.int (k : Int)) = _ := ix_sp (l := bx Bs i) (k := k) (by rw [(h.b i hi).l]; exact hk) false
    have eh := hull_one (ptN s k) (ptN (bx Bs i) k)
    generalize spD (mnI (ptN s k).1 (ptN (bx Bs i) k).1, mxI (ptN s k).2 (ptN (bx Bs i) k).2) = R at *
    generalize bF (bx Bs i) = BI at *
    generalize Bs.map bF = BS at *
    generalize N.map nI = NN at *
    generalize s.map spD = SS at *
    generalize (i : Int) = ii at *
    generalize (k : Int) = kk at *
    generalize (ptN s k).1 = a1 at *
    generalize (ptN s k).2 = a2 at *
    generalize (ptN (bx Bs i) k).1 = a3 at *
    generalize (ptN (bx Bs i) k).2 = a4 at *
    simp_arith only [i1, i2, i3, eh]
  rw [List.nil_append, List.filter_eq_self.mpr (fun _ _ => rfl)] at e
  have em : (hlW m s (bx Bs i)).map spD = (List.range m).map fun k => spD (mnI (ptN s k).1 (ptN (bx Bs i) k).1, mxI (ptN s k).2 (ptN (bx Bs i) k).2) := by unfold hlW; rw [List.map_map]; rfl
  rw [← em] at e
  have lS : gLen [.lst true (s.map spD)] = some (.int (m : Int)) := by rw [vLenL, List.length_map, hs]
  have er : iR1 (aCons (eZ (zC' gLen (zaCons (zVar 2) zaNil))) aNil) [some (.lst false (Bs.map bF)), some (.lst false (N.map nI)), some (.lst true (s.map spD)), some (.int (i : Int)), none] = .ok (rangeD 0 m) [some (.lst false (Bs.map bF)), some (.lst false (N.map nI)), some (.lst true (s.map spD)), some (.int (i : Int)), none] := by
    refine x_range (N := (m : Int)) ?_ (by omega) (by omega) (by omega)
    generalize Bs.map bF = BS at *
    generalize N.map nI = NN at *
    generalize s.map spD = SS at *
    simp_arith only [lS]
  have ec : c_hull_of_1 [some (.lst false (Bs.map bF)), some (.lst false (N.map nI)), some (.lst true (s.map spD)), some (.int (i : Int)), none] = .ok (.lst true ((hlW m s (bx Bs i)).map spD)) [some (.lst false (Bs.map bF)), some (.lst false (N.map nI)), some (.lst true (s.map spD)), some (.int (i : Int)), none] := by
    unfold c_hull_of_1
    rw [x_lc, er, x_b1]
    show lcE (lcL [4] (gN 4) tTrue _ ((List.range m).map fun k : Nat => D.int (0 + (k : Int))) [] [some (.lst false (Bs.map bF)), some (.lst false (N.map nI)), some (.lst true (s.map spD)), some (.int (i : Int)), none]) = _
    rw [e]; rfl
  unfold l_hull_of_1
  exact x_asg_ok ec rfl
theorem hull_loop (h : BsOk m n Bs) {N0 : List Nat} : ∀ (N : List Nat) (s : List (Int × Int)) (x3 : Option D), (∀ i ∈ N, i < n) → s.length = m → ∃ y3, forL (gN 3) l_hull_of_1 (N.map nI) [some (.lst false (Bs.map bF)), some (.lst false (N0.map nI)), some (.lst true (s.map spD)), x3, none] = .nx [some (.lst false (Bs.map bF)), some (.lst false (N0.map nI)), some (.lst true ((N.foldl (fun s i => hlW m s (bx Bs i)) s).map spD)), y3, none]
  | [], s, x3, _, _ => ⟨x3, rfl⟩
  | i :: N, s, x3, hN, hs => by
    have st := hull_step h (N := N0) hs (hN i List.mem_cons_self) (x4 := none)
    obtain ⟨y3, ih⟩ := hull_loop h (N0 := N0) N (hlW m s (bx Bs i)) (some (.int (i : Int))) (fun j hj => hN j (List.mem_cons_of_mem _ hj)) (by unfold hlW; rw [List.length_map, List.length_range])
    refine ⟨y3, ?_⟩
    have gg : gN 3 (nI i) [some (.lst false (Bs.map bF)), some (.lst false (N0.map nI)), some (.lst true (s.map spD)), x3, none] = some [some (.lst false (Bs.map bF)), some (.lst false (N0.map nI)), some (.lst true (s.map spD)), some (.int (i : Int)), none] := rfl
    rw [List.map_cons, x_fo1, gg, x_fo2, st, x_fo3]
    exact ih
theorem hull_ok (h : BsOk m n Bs) {N : List Nat} (hN : ∀ i ∈ N, i < n) (hne : N ≠ []) : f_hull_of [.lst false (Bs.map bF), .lst false (N.map nI)] = .ok (.lst true ((endsW m Bs N).map spD)) := by
  obtain ⟨i, r, rfl⟩ : ∃ i r, N = i :: r := by
    cases N with
    | nil => exact absurd rfl hne
    | cons i r => exact ⟨i, r, rfl⟩
  have hi := hN i List.mem_cons_self
  obtain ⟨y3, hl⟩ := hull_loop h (N0 := i :: r) (i :: r) (bx Bs i) none hN (h.b i hi).l
  rw [hull_ends m (h.b i hi).l] at hl
  have fN := fz_nI (i :: r)
  have w : w_hull_of_1 [some (.lst false (Bs.map bF)), some (.lst false ((i :: r).map nI)), some (.lst true ((bx Bs i).map spD)), none, none] = .nx [some (.lst false (Bs.map bF)), some (.lst false ((i :: r).map nI)), some (.lst true ((endsW m Bs (i :: r)).map spD)), y3, none] := by
    unfold w_hull_of_1
    rw [x_for, show iL (eVar 1) [some (.lst false (Bs.map bF)), some (.lst false ((i :: r).map nI)), some (.lst true ((bx Bs i).map spD)), none, none] = .ok ((i :: r).map nI) [some (.lst false (Bs.map bF)), some (.lst false ((i :: r).map nI)), some (.lst true ((bx Bs i).map spD)), none, none] by
      generalize (i :: r).map nI = NN at *
      simp_arith only [fN], x_s1]
    exact hl
  have i0 : gIx (.lst false ((i :: r).map nI)) (.int 0) = some (.int (i : Int)) := vIxL_of (k := 0) rfl rfl
  have ib : gIx (.lst false (Bs.map bF)) (.int (i : Int)) = some (.lst false ((bx Bs i).map spD)) := ix_bs h hi false
  have fb := fz_sp (bx Bs i)
  have s0 : (sAsg (eLstOf (aCons (eZ (Bn.z2 gIx (zVar 0) (Bn.z2 gIx (zVar 1) (zC (.int 0))))) aNil)) (gN 2)) [some (.lst false (Bs.map bF)), some (.lst false ((i :: r).map nI)), none, none, none] = .nx [some (.lst false (Bs.map bF)), some (.lst false ((i :: r).map nI)), some (.lst true ((bx Bs i).map spD)), none, none] := by
    generalize (i :: r).map nI = NN at *
    generalize Bs.map bF = BS at *
    generalize (bx Bs i).map spD = BB at *
    generalize (i : Int) = ii at *
    simp_arith only [i0, ib, fb]
  have k : m_hull_of [some (.lst false (Bs.map bF)), some (.lst false ((i :: r).map nI)), none, none, none] = .rt (.lst true ((endsW m Bs (i :: r)).map spD)) [some (.lst false (Bs.map bF)), some (.lst false ((i :: r).map nI)), none, y3, none] := x_seq_ok s0 (x_seq_ok w rfl)
  exact (cF_ok (b := m_hull_of) (n := 2) (N := 5) (ds := [.lst false (Bs.map bF), .lst false ((i :: r).map nI)]) rfl rfl k).trans rfl
/-! ### the islands -/
def isD (m : Nat) (Bs : List (List (Int × Int))) (f : Nat) : D := .tup [.lst false ((compW Bs f).map nI), .lst false ((endsW m Bs (compW Bs f)).map spD)]
def leasts (Bs : List (List (Int × Int))) (a : Nat) : List Nat := (List.range a).filter fun k => mk Bs k == k
theorem memK_put (k j : L2.Key) (ks : List L2.Key) : memK j (dputK ks k) = (memK j ks || decide (k = j)) := by
  unfold dputK
  by_cases c : memK k ks = true
  · rw [if_pos c]
    by_cases e : k = j
    · subst e; rw [c]; rfl
    · rw [decide_eq_false e, Bool.or_false]
  · rw [if_neg c]
    unfold memK
    rw [List.any_append, List.any_cons, List.any_nil, Bool.or_false]
theorem is_put {X Y : D} {ks : List L2.Key} {xs : List D} {f k : Int} {x4 : Option D} (hl : ks.length < 900000) : l_islands_1 [some X, some Y, some (.dct true ks xs), some (.int f), x4, some (.int k)] = .nx [some X, some Y, some (.dct true (dputK ks (.inl k)) (dputX ks xs (.inl k) (.bl true))), some (.int f), x4, some (.int k)] := by
  show (if isFz (.bl true) = true ∧ ks.length < 1000000 then _ else SR.bad) = _
  rw [if_pos ⟨rfl, by omega⟩]
  rfl
theorem is_in {X Y : D} {f : Int} {x4 : Option D} : ∀ (N : List Nat) (ks : List L2.Key) (xs : List D) (x5 : Option D), ks.length + N.length < 900000 → ∃ ks' xs' y5, forL (gN 5) l_islands_1 (N.map nI) [some X, some Y, some (.dct true ks xs), some (.int f), x4, x5] = .nx [some X, some Y, some (.dct true ks' xs'), some (.int f), x4, y5] ∧ ks'.length ≤ ks.length + N.length ∧ ∀ j : Nat, memK (.inl (j : Int)) ks' = (memK (.inl (j : Int)) ks || N.contains j)
  | [], ks, xs, x5, _ => ⟨ks, xs, x5, rfl, Nat.le_refl _, fun j => by simp⟩
  | k :: N, ks, xs, x5, hl => by
    rw [List.length_cons] at hl
    have st := is_put (X := X) (Y := Y) (ks := ks) (xs := xs) (f := f) (k := (k : Int)) (x4 := x4) (by omega)
    have dl : (dputK ks (.inl (k : Int))).length ≤ ks.length + 1 := by
      unfold dputK
      split
      · omega
      · rw [List.length_append]; exact Nat.le_refl _
    obtain ⟨ks', xs', y5, e, l', hm⟩ := is_in (X := X) (Y := Y) (f := f) (x4 := x4) N (dputK ks (.inl (k : Int))) (dputX ks xs (.inl (k : Int)) (.bl true)) (some (.int (k : Int))) (by omega)
    refine ⟨ks', xs', y5, ?_, by rw [List.length_cons]; omega, fun j => ?_⟩
    · rw [List.map_cons, x_fo1]
      show forB (l_islands_1 [some X, some Y, some (.dct true ks xs), some (.int f), x4, some (.int (k : Int))]) _ = _
      rw [st]
      exact e
    · rw [hm j, memK_put, List.contains_cons, Bool.or_assoc]
      congr 1
      have : decide ((Sum.inl (k : Int) : L2.Key) = Sum.inl (j : Int)) = (j == k) := by
        by_cases e : j = k
        · subst e; simp
        · rw [decide_eq_false (fun z => e (by injection z with z; omega))]
          exact (beq_eq_false_iff_ne.mpr e).symm
      rw [this]
theorem is_skip {X Y : D} {ks : List L2.Key} {xs : List D} {f : Int} {x4 x5 : Option D} (h : memK (.inl f) ks = true) : l_islands_2 [some X, some Y, some (.dct true ks xs), some (.int f), x4, x5] = .ct [some X, some Y, some (.dct true ks xs), some (.int f), x4, x5] := by
  have e : gDIn false (.int f) (.dct true ks xs) = some (.bl true) := by
    show some (D.bl (if false = true then _ else memK (.inl f) ks)) = _
    rw [if_neg (by decide), h]
  unfold l_islands_2
  simp_arith only [e]
theorem is_take {BS acc NN EE : List D} {ks ks' : List L2.Key} {xs xs' : List D} {f : Int} {x4 x5 y5 : Option D} {fg fh : List D → CR} {ww : MS} (qg : f_grown_from = fg) (qh : f_hull_of = fh) (qw : w_islands_1 = ww) (h : memK (.inl f) ks = false) (eg : fg [.lst false BS, .int f] = .ok (.lst true NN)) (fN : freezeL NN = NN) (ew : ww [some (.lst false BS), some (.lst true acc), some (.dct true ks xs), some (.int f), some (.lst true NN), x5] = .nx [some (.lst false BS), some (.lst true acc), some (.dct true ks' xs'), some (.int f), some (.lst false NN), y5]) (eh : fh [.lst false BS, .lst false NN] = .ok (.lst true EE)) (fE : freezeL EE = EE) (hl : acc.length < 1000000) : l_islands_2 [some (.lst false BS), some (.lst true acc), some (.dct true ks xs), some (.int f), x4, x5] = .nx [some (.lst false BS), some (.lst true (acc ++ [.tup [.lst false NN, .lst false EE]])), some (.dct true ks' xs'), some (.int f), some (.lst false NN), y5] := by
  have e : gDIn false (.int f) (.dct true ks xs) = some (.bl false) := by
    show some (D.bl (if false = true then _ else memK (.inl f) ks)) = _
    rw [if_neg (by decide), h]
  unfold l_islands_2
  rw [qg, qh, qw]; clear qg qh qw
  simp_arith only [e, eg, fN, ew, eh, fE, hl]
theorem leasts_succ (Bs : List (List (Int × Int))) (a : Nat) : leasts Bs (a + 1) = leasts Bs a ++ if mk Bs a == a then [a] else [] := by
  unfold leasts
  rw [List.range_succ, List.filter_append]
  congr 1
  by_cases h : (mk Bs a == a) = true
  · rw [if_pos h, List.filter_cons, if_pos h]; rfl
  · rw [if_neg h, List.filter_cons, if_neg h]; rfl
theorem comp_lt (h : BsOk m n Bs) (f : Nat) : ∀ i ∈ compW Bs f, i < n := fun i hi => by
  have := List.mem_range.mp (List.mem_filter.mp hi).1
  rw [h.l] at this; exact this
theorem comp_len (h : BsOk m n Bs) (f : Nat) : (compW Bs f).length ≤ 63 := by
  have h1 : (compW Bs f).length ≤ (List.range Bs.length).length := List.length_filter_le _ _
  rw [List.length_range, h.l] at h1
  have := h.n63
  omega
theorem is_loop (h : BsOk m n Bs) : ∀ (r a : Nat) (ks : List L2.Key) (xs : List D) (x3 x4 x5 : Option D), a + r = n → ks.length ≤ 64 * a → (∀ k : Nat, k < n → memK (.inl (k : Int)) ks = decide (mk Bs k < a)) → ∃ ks' xs' y3 y4 y5, forL (gN 3) l_islands_2 (rangeD a r) [some (.lst false (Bs.map bF)), some (.lst true ((leasts Bs a).map (isD m Bs))), some (.dct true ks xs), x3, x4, x5] = .nx [some (.lst false (Bs.map bF)), some (.lst true ((leasts Bs n).map (isD m Bs))), some (.dct true ks' xs'), y3, y4, y5]
  | 0, a, ks, xs, x3, x4, x5, ha, _, _ => ⟨ks, xs, x3, x4, x5, by
    have : a = n := by omega
    subst this; rfl⟩
  | r + 1, a, ks, xs, x3, x4, x5, ha, hl, hm => by
    have lab := lab_ok h
    have n63 := h.n63
    have ml := (lab.le a (by omega)).1
    have mm := (lab.le a (by omega)).2
    rw [rangeD_succ, x_fo1]
    show ∃ ks' xs' y3 y4 y5, forB (l_islands_2 [some (.lst false (Bs.map bF)), some (.lst true ((leasts Bs a).map (isD m Bs))), some (.dct true ks xs), some (.int (a : Int)), x4, x5]) _ = _
    by_cases c : mk Bs a = a
    · have c2 : (mk Bs a == a) = true := by rw [c]; simp
      have m0 : memK (.inl (a : Int)) ks = false := by rw [hm a (by omega)]; exact decide_eq_false (by omega)
      have cl := comp_len h a
      obtain ⟨ks', xs', y5, e, l', hm'⟩ := is_in (X := .lst false (Bs.map bF)) (Y := .lst true ((leasts Bs a).map (isD m Bs))) (f := (a : Int)) (x4 := some (.lst false ((compW Bs a).map nI))) (compW Bs a) ks xs x5 (by omega)
      have fN := fz_nI (compW Bs a)
      have ew : w_islands_1 [some (.lst false (Bs.map bF)), some (.lst true ((leasts Bs a).map (isD m Bs))), some (.dct true ks xs), some (.int (a : Int)), some (.lst true ((compW Bs a).map nI)), x5] = .nx [some (.lst false (Bs.map bF)), some (.lst true ((leasts Bs a).map (isD m Bs))), some (.dct true ks' xs'), some (.int (a : Int)), some (.lst false ((compW Bs a).map nI)), y5] := by
        unfold w_islands_1
        rw [x_for, show iL (eVar 4) [some (.lst false (Bs.map bF)), some (.lst true ((leasts Bs a).map (isD m Bs))), some (.dct true ks xs), some (.int (a : Int)), some (.lst true ((compW Bs a).map nI)), x5] = .ok ((compW Bs a).map nI) [some (.lst false (Bs.map bF)), some (.lst true ((leasts Bs a).map (isD m Bs))), some (.dct true ks xs), some (.int (a : Int)), some (.lst false ((compW Bs a).map nI)), x5] by
          generalize (compW Bs a).map nI = NN at *
          generalize (leasts Bs a).map (isD m Bs) = LL at *
          generalize Bs.map bF = BS at *
          simp_arith only [fN], x_s1]
        exact e
      have inA : a ∈ compW Bs a := List.mem_filter.mpr ⟨List.mem_range.mpr (by rw [h.l]; omega), c2⟩
      have ll : ((leasts Bs a).map (isD m Bs)).length < 1000000 := by
        have : (leasts Bs a).length ≤ (List.range a).length := List.length_filter_le _ _
        rw [List.length_range] at this
        rw [List.length_map]; omega
      have st := is_take (x4 := x4) rfl rfl rfl m0 (grown_ok h (by omega) c) fN ew (hull_ok h (comp_lt h a) (fun z => by rw [z] at inA; cases inA)) (fz_sp _) ll
      have la : (leasts Bs (a + 1)).map (isD m Bs) = (leasts Bs a).map (isD m Bs) ++ [.tup [.lst false ((compW Bs a).map nI), .lst false ((endsW m Bs (compW Bs a)).map spD)]] := by
        rw [leasts_succ, if_pos c2, List.map_append]; rfl
      obtain ⟨ks2, xs2, y3, y4, z5, ih⟩ := is_loop h r (a + 1) ks' xs' (some (.int (a : Int))) (some (.lst false ((compW Bs a).map nI))) y5 (by omega) (by omega) fun k hk => by
        rw [hm' k, hm k hk]
        have hin : (compW Bs a).contains k = decide (mk Bs k = a) := by
          rw [Bool.eq_iff_iff, List.contains_iff_mem, decide_eq_true_eq]
          unfold compW
          rw [List.mem_filter, List.mem_range, h.l]
          constructor
          · rintro ⟨_, q⟩; simpa using q
          · intro q; exact ⟨hk, by rw [q]; simp⟩
        rw [hin, Bool.eq_iff_iff, Bool.or_eq_true, decide_eq_true_eq, decide_eq_true_eq, decide_eq_true_eq]
        omega
      refine ⟨ks2, xs2, y3, y4, z5, ?_⟩
      rw [st]
      rw [la] at ih
      exact ih
    · have lt : mk Bs a < a := by omega
      have m1 : memK (.inl (a : Int)) ks = true := by rw [hm a (by omega)]; exact decide_eq_true lt
      have st := is_skip (X := .lst false (Bs.map bF)) (Y := .lst true ((leasts Bs a).map (isD m Bs))) (xs := xs) (x4 := x4) (x5 := x5) m1
      have la : leasts Bs (a + 1) = leasts Bs a := by
        rw [leasts_succ, if_neg (by simpa using c), List.append_nil]
      obtain ⟨ks2, xs2, y3, y4, z5, ih⟩ := is_loop h r (a + 1) ks xs (some (.int (a : Int))) x4 x5 (by omega) (by omega) fun k hk => by
        rw [hm k hk]
        have : ¬ mk Bs k = a := fun z => by
          have := (lab.le k hk).2
          rw [z] at this
          exact c this
        exact decide_eq_decide.mpr (by omega)
      refine ⟨ks2, xs2, y3, y4, z5, ?_⟩
      rw [st]
      rw [la] at ih
      exact ih
theorem islands_ok (h : BsOk m n Bs) : f_islands [.lst false (Bs.map bF)] = .ok (.lst true ((leasts Bs n).map (isD m Bs))) := by
  have n63 := h.n63
  obtain ⟨ks', xs', y3, y4, y5, e⟩ := is_loop h n 0 [] [] none none none (by omega) (Nat.le_refl _) fun k _ => by
    rw [decide_eq_false (by omega)]; rfl
  have e : forL (gN 3) l_islands_2 (rangeD 0 n) [some (.lst false (Bs.map bF)), some (.lst true []), some (.dct true [] []), none, none, none] = _ := e
  have lB : gLen [.lst false (Bs.map bF)] = some (.int (n : Int)) := by rw [vLenL, List.length_map, h.l]
  have w : w_islands_2 [some (.lst false (Bs.map bF)), some (.lst true []), some (.dct true [] []), none, none, none] = .nx [some (.lst false (Bs.map bF)), some (.lst true ((leasts Bs n).map (isD m Bs))), some (.dct true ks' xs'), y3, y4, y5] := by
    unfold w_islands_2
    rw [x_for_range (N := (n : Int)) (n := n) (τ1 := [some (.lst false (Bs.map bF)), some (.lst true []), some (.dct true [] []), none, none, none]) ?_ (by omega) (by omega) (by omega)]
    · exact e
    · generalize Bs.map bF = BS at *
      simp_arith only [lB]
  have k : m_islands [some (.lst false (Bs.map bF)), none, none, none, none, none] = .rt (.lst true ((leasts Bs n).map (isD m Bs))) [some (.lst false (Bs.map bF)), none, some (.dct true ks' xs'), y3, y4, y5] := x_seq_ok (τ1 := [some (.lst false (Bs.map bF)), some (.lst true []), none, none, none, none]) rfl (x_seq_ok (τ1 := [some (.lst false (Bs.map bF)), some (.lst true []), some (.dct true [] []), none, none, none]) rfl (x_seq_ok w rfl))
  exact (cF_ok (b := m_islands) (n := 1) (N := 6) (ds := [.lst false (Bs.map bF)]) rfl rfl k).trans rfl
end


end I
section
open PySem
@[irreducible] noncomputable def n__law_cell_at (script' : (List Int)) (k' : Int) : N Int := NS.f (σ := Unit) (κ := Unit) (
if (decide (k' < ((script').length : Int))) = true then
N.s (N.ix script' k') fun x2 => NS.rt x2
else
NS.rt 0)
theorem vf__law_cell_at : VF f__law_cell_at (fun (a : ((List Int) × Int)) => n__law_cell_at a.1 a.2) (eCons eCn (eOne eI)) eI := by
  rintro ⟨script', k'⟩ ds h
  show SatC _ (n__law_cell_at script' k') _
  unfold n__law_cell_at
  exact satC_of (L := fun (_ : Unit) => []) (G' := fun (_ : Unit) => [.any, .any]) (n := 2) (N := 2) (b := m__law_cell_at) rfl ((inil_cons inil_one) _ _ h) rfl ((vs_ifP (vt_z (vz_2 (v := N.ok (decide (k' < ((script').length : Int)))) vz_var (vz_call (v := N.ok ((script').length : Int)) (vza_one vz_var) c_lenC nx_p1 ) o_lt nx_p2)) (vs_stop (vs_ret (ve_z (vz_2 (v := (N.ix script' k')) vz_var vz_var o_ixC nx_ix) zf_I) (fun a => a) (fun a d τ h s => h))) (vs_doc (vs_retP (ve_z vz_i zf_I) (fun a => a) (fun a d τ h s => h)))))
@[irreducible] noncomputable def n__law_mix (cell' : Int) (k' : Int) : N Int := NS.f (σ := Unit) (κ := Unit) (
N.s (N.bind (N.bind (N.bind (N.bind (N.bind (N.mul 2 k') fun x17 => N.ok (x17 + 3)) fun x18 => (N.mul cell' x18)) fun x19 => (N.mul x19 48271)) fun x21 => N.bind (N.bind (N.mul k' k') fun x20 => (N.mul x20 7919)) fun x22 => N.ok (x21 + x22)) fun x23 => (N.mod x23 2147483647)) fun x24 => NS.rt x24)
theorem vf__law_mix : VF f__law_mix (fun (a : (Int × Int)) => n__law_mix a.1 a.2) (eCons eI (eOne eI)) eI := by
  rintro ⟨cell', k'⟩ ds h
  show SatC _ (n__law_mix cell' k') _
  unfold n__law_mix
  exact satC_of (L := fun (_ : Unit) => []) (G' := fun (_ : Unit) => [.any, .any]) (n := 2) (N := 2) (b := m__law_mix) rfl ((inil_cons inil_one) _ _ h) rfl ((vs_ret (ve_z (vz_2 (v := (N.bind (N.bind (N.bind (N.bind (N.bind (N.mul 2 k') fun x17 => N.ok (x17 + 3)) fun x18 => (N.mul cell' x18)) fun x19 => (N.mul x19 48271)) fun x21 => N.bind (N.bind (N.mul k' k') fun x20 => (N.mul x20 7919)) fun x22 => N.ok (x21 + x22)) fun x23 => (N.mod x23 2147483647))) (vz_2 (v := (N.bind (N.bind (N.bind (N.bind (N.mul 2 k') fun x17 => N.ok (x17 + 3)) fun x18 => (N.mul cell' x18)) fun x19 => (N.mul x19 48271)) fun x21 => N.bind (N.bind (N.mul k' k') fun x20 => (N.mul x20 7919)) fun x22 => N.ok (x21 + x22))) (vz_2 (v := (N.bind (N.bind (N.bind (N.mul 2 k') fun x17 => N.ok (x17 + 3)) fun x18 => (N.mul cell' x18)) fun x19 => (N.mul x19 48271))) (vz_2 (v := (N.bind (N.bind (N.mul 2 k') fun x17 => N.ok (x17 + 3)) fun x18 => (N.mul cell' x18))) vz_var (vz_2 (v := (N.bind (N.mul 2 k') fun x17 => N.ok (x17 + 3))) (vz_2 (v := (N.mul 2 k')) vz_i vz_var o_mul nx_mul) vz_i o_add nx_p2) o_mul nx_mul) vz_i o_mul nx_mul) (vz_2 (v := (N.bind (N.mul k' k') fun x20 => (N.mul x20 7919))) (vz_2 (v := (N.mul k' k')) vz_var vz_var o_mul nx_mul) vz_i o_mul nx_mul) o_add nx_p2) vz_i o_mod nx_mod) zf_I) (fun a => a) (fun a d τ h s => h)))
@[irreducible] noncomputable def n__law_box (cell' : Int) (size' : Int) (wide' : Int) : N (List (Int × Int)) := NS.f (σ := Unit) (κ := Unit) (
N.s (N.range size') fun x53 =>
NS.s (forN (fun (k' : Int) (s39 : (List (Int × Int))) =>
N.s (N.bind (n__law_mix cell' k') fun x46 => (N.mod x46 wide')) fun low'1 =>
N.s (N.bind (N.bind (N.bind (n__law_mix cell' (k' + 10)) fun x47 => (N.mod x47 5)) fun x48 => N.ok (low'1 + x48)) fun x49 => N.ok (low'1, x49)) fun x51 => if (s39).length < 1000000 then
NS.nx (s39 ++ [x51])
  else NS.bad) x53 []) fun s52 =>
NS.rt s52)
theorem vf__law_box : VF f__law_box (fun (a : (Int × Int × Int)) => n__law_box a.1 a.2.1 a.2.2) (eCons eI (eCons eI (eOne eI))) (eLi true (eTu (eCons eI (eOne eI)))) := by
  rintro ⟨cell', size', wide'⟩ ds h
  show SatC _ (n__law_box cell' size' wide') _
  unfold n__law_box
  exact satC_of (L := fun (_ : Unit) => []) (G' := fun (_ : Unit) => [.any, .any, .any, .any, .any, .any]) (n := 3) (N := 6) (b := m__law_box) rfl ((inil_cons (inil_cons inil_one)) _ _ h) rfl ((vs_asgP (ve_lst vl_nil) vg_n (vs_for (GI := fun (y : (List (Int × Int))) => [.val eI cell', .val eI size', .val eI wide', .val (eLi true (eTu (eCons eI (eOne eI)))) y, .any, .any]) (s0 := []) (vi_r1 (w := (N.range size')) (va_one (ve_varF zf_I))) vg_n ent_id (fun (k' : Int) (s39 : (List (Int × Int))) => (vs_asg (ve_2 (v := (N.bind (n__law_mix cell' k') fun x46 => (N.mod x46 wide'))) (ve_call (v := (n__law_mix cell' k')) (va_cons (u := N.ok (cell', k')) (ve_varF zf_I) (va_one (ve_varF zf_I))) vf__law_mix (fzl_cons (fz_z zf_I) (fzl_one (fz_z zf_I))) xt ) (ve_varF zf_I) o_mod zf_I nx_mod) vg_n (fun low'1 => (vs_one (vs_app (ve_tup (va_cons (u := (N.bind (N.bind (N.bind (n__law_mix cell' (k' + 10)) fun x47 => (N.mod x47 5)) fun x48 => N.ok (low'1 + x48)) fun x50 => N.ok (low'1, x50))) (ve_varF zf_I) (va_one (ve_2 (v := (N.bind (N.bind (n__law_mix cell' (k' + 10)) fun x47 => (N.mod x47 5)) fun x48 => N.ok (low'1 + x48))) (ve_varF zf_I) (ve_2 (v := (N.bind (n__law_mix cell' (k' + 10)) fun x47 => (N.mod x47 5))) (ve_call (v := (n__law_mix cell' (k' + 10))) (va_cons (u := N.ok (cell', (k' + 10))) (ve_varF zf_I) (va_one (ve_z (vz_2 (v := N.ok (k' + 10)) vz_var vz_i o_add nx_p2) zf_I))) vf__law_mix (fzl_cons (fz_z zf_I) (fzl_one (fz_z zf_I))) xt ) (ve_z vz_i zf_I) o_mod zf_I nx_mod) o_add zf_I nx_p2))) (fzl_cons (fz_z zf_I) (fzl_one (fz_z zf_I))) (len_cons len_one)) (fun x51 => (vs_end (ent_cons se_id (ent_cons se_id (ent_cons se_id (ent_cons se_id (ent_cons se_any (ent_cons se_any ent_nil))))))))))))) (fun (s52 : (List (Int × Int))) => (vs_retP ve_mv (fun a => a) (fun a d τ h s => h))))))
@[irreducible] noncomputable def n_islands (x0 : (List (List (Int × Int)))) : N (List ((List Int) × (List (Int × Int)))) := nOf f_islands (fun (a : (List (List (Int × Int)))) => [(D.lst false ((a).map fun (z : (List (Int × Int))) => (D.lst false ((z).map fun (z : (Int × Int)) => (D.tup [(D.int z.1), (D.int z.2)])))))]) (eLi true (eTu (eCons (eLi false eI) (eOne (eLi false (eTu (eCons eI (eOne eI)))))))) (x0)
theorem fx_islands : FxL (eOne (eLi false (eLi false (eTu (eCons eI (eOne eI)))))) (fun (a : (List (List (Int × Int)))) => [(D.lst false ((a).map fun (z : (List (Int × Int))) => (D.lst false ((z).map fun (z : (Int × Int)) => (D.tup [(D.int z.1), (D.int z.2)])))))]) := (fxl_one (fx_L (f := fun (z : (List (Int × Int))) => (D.lst false ((z).map fun (z : (Int × Int)) => (D.tup [(D.int z.1), (D.int z.2)])))) (fx_L (f := fun (z : (Int × Int)) => (D.tup [(D.int z.1), (D.int z.2)])) (fx_T (fxl_cons fx_I (fxl_one fx_I))))))
theorem vf_islands_a (f : List D → CR) : VF f (nOf f (fun (a : (List (List (Int × Int)))) => [(D.lst false ((a).map fun (z : (List (Int × Int))) => (D.lst false ((z).map fun (z : (Int × Int)) => (D.tup [(D.int z.1), (D.int z.2)])))))]) (eLi true (eTu (eCons (eLi false eI) (eOne (eLi false (eTu (eCons eI (eOne eI))))))))) (eOne (eLi false (eLi false (eTu (eCons eI (eOne eI)))))) (eLi true (eTu (eCons (eLi false eI) (eOne (eLi false (eTu (eCons eI (eOne eI)))))))) := vf_nOf fx_islands
theorem nf_islands : (fun (a : (List (List (Int × Int)))) => n_islands a) = nOf f_islands (fun (a : (List (List (Int × Int)))) => [(D.lst false ((a).map fun (z : (List (Int × Int))) => (D.lst false ((z).map fun (z : (Int × Int)) => (D.tup [(D.int z.1), (D.int z.2)])))))]) (eLi true (eTu (eCons (eLi false eI) (eOne (eLi false (eTu (eCons eI (eOne eI)))))))) := by funext a; unfold n_islands; rfl
theorem vf_islands : VF f_islands (fun (a : (List (List (Int × Int)))) => n_islands a) (eOne (eLi false (eLi false (eTu (eCons eI (eOne eI)))))) (eLi true (eTu (eCons (eLi false eI) (eOne (eLi false (eTu (eCons eI (eOne eI)))))))) := by
  rw [nf_islands]
  generalize f_islands = f
  exact vf_islands_a f
@[irreducible] noncomputable def n__law_touch (one' : (List (Int × Int))) (other' : (List (Int × Int))) : N Bool := NS.f (σ := Unit) (κ := Unit) (
N.s (N.range ((one').length : Int)) fun x106 =>
NS.s (forN (fun (k' : Int) (s86 : Unit) =>
N.s (N.or (N.bind (N.bind (N.ix one' k') fun x96 => N.ok x96.2) fun x98 => N.bind (N.bind (N.ix other' k') fun x97 => N.ok x97.1) fun x99 => N.ok (decide (x98 < x99))) (N.bind (N.bind (N.ix other' k') fun x100 => N.ok x100.2) fun x102 => N.bind (N.bind (N.ix one' k') fun x101 => N.ok x101.1) fun x103 => N.ok (decide (x102 < x103)))) fun b104 => if b104 = true then
NS.rt false
else
NS.nx ()) x106 ()) fun s105 =>
NS.rt true)
theorem vf__law_touch : VF f__law_touch (fun (a : ((List (Int × Int)) × (List (Int × Int)))) => n__law_touch a.1 a.2) (eCons (eLi false (eTu (eCons eI (eOne eI)))) (eOne (eLi false (eTu (eCons eI (eOne eI)))))) eB := by
  rintro ⟨one', other'⟩ ds h
  show SatC _ (n__law_touch one' other') _
  unfold n__law_touch
  exact satC_of (L := fun (_ : Unit) => []) (G' := fun (_ : Unit) => [.any, .any, .any]) (n := 2) (N := 3) (b := m__law_touch) rfl ((inil_cons inil_one) _ _ h) rfl ((vs_for (GI := fun (y : Unit) => [.val (eLi false (eTu (eCons eI (eOne eI)))) one', .val (eLi false (eTu (eCons eI (eOne eI)))) other', .any]) (s0 := ()) (vi_r1 (w := (N.range ((one').length : Int))) (va_one (ve_z (vz_call (v := N.ok ((one').length : Int)) (vza_one vz_var) c_len nx_p1 ) zf_I))) vg_n ent_id (fun (k' : Int) (s86 : Unit) => (vs_one (vs_if (vt_or (vt_z (vz_2 (v := (N.bind (N.bind (N.ix one' k') fun x96 => N.ok x96.2) fun x98 => N.bind (N.bind (N.ix other' k') fun x97 => N.ok x97.1) fun x99 => N.ok (decide (x98 < x99)))) (vz_2 (v := (N.bind (N.ix one' k') fun x96 => N.ok x96.2)) (vz_2 (v := (N.ix one' k')) vz_var vz_var o_ix nx_ix) (vz_k (k := 1)) (o_ixT (pt_s pt_1)) nx_p2) (vz_2 (v := (N.bind (N.ix other' k') fun x97 => N.ok x97.1)) (vz_2 (v := (N.ix other' k')) vz_var vz_var o_ix nx_ix) (vz_k (k := 0)) (o_ixT pt_0) nx_p2) o_lt nx_p2)) (vt_z (vz_2 (v := (N.bind (N.bind (N.ix other' k') fun x100 => N.ok x100.2) fun x102 => N.bind (N.bind (N.ix one' k') fun x101 => N.ok x101.1) fun x103 => N.ok (decide (x102 < x103)))) (vz_2 (v := (N.bind (N.ix other' k') fun x100 => N.ok x100.2)) (vz_2 (v := (N.ix other' k')) vz_var vz_var o_ix nx_ix) (vz_k (k := 1)) (o_ixT (pt_s pt_1)) nx_p2) (vz_2 (v := (N.bind (N.ix one' k') fun x101 => N.ok x101.1)) (vz_2 (v := (N.ix one' k')) vz_var vz_var o_ix nx_ix) (vz_k (k := 0)) (o_ixT pt_0) nx_p2) o_lt nx_p2)) ent_id) (vs_stop (vs_retP (ve_z vz_b zf_B) (fun a => a) (fun a d τ h s => h))) (vs_doc (vs_end (ent_cons se_id (ent_cons se_id (ent_cons se_any ent_nil)))))))) (fun (s105 : Unit) => (vs_retP (ve_z vz_b zf_B) (fun a => a) (fun a d τ h s => h)))))
@[irreducible] noncomputable def n__law_reached (boxes' : (List (List (Int × Int)))) (numbers' : (List Int)) : N Bool := NS.f (σ := Unit) (κ := Unit) (
N.s (N.bind (N.ix numbers' 0) fun x140 => N.ok [x140]) fun reached' =>
N.s (N.ok numbers') fun x174 =>
NS.s (forN (fun (turn' : Int) (s141 : (List Int)) =>
N.s (N.ok numbers') fun x171 =>
NS.s (forN (fun (number'1 : Int) (s157 : (List Int)) =>
N.s (N.and (N.gb (gIn true (D.int number'1) (D.lst true ((s157).map fun (z : Int) => (D.int z))))) (N.bind (lcN (fun (k'3 : Int) => (N.ok true)) (fun (k'3 : Int) => (N.bind (N.ix boxes' number'1) fun x164 => N.bind (N.ix boxes' k'3) fun x165 => (n__law_touch x164 x165))) s157) fun x168 => N.ok (List.any x168 id))) fun b169 => if b169 = true then
if (s157).length < 1000000 then
NS.nx (s157 ++ [number'1])
  else NS.bad
else
NS.nx s157) x171 s141) fun s170 =>
NS.nx s170) x174 reached') fun s172 =>
N.s (N.gb (gEq (D.lst false (((sortI s172)).map fun (z : Int) => (D.int z))) (D.lst false ((numbers').map fun (z : Int) => (D.int z))))) fun x173 => NS.rt x173)
theorem vf__law_reached : VF f__law_reached (fun (a : ((List (List (Int × Int))) × (List Int))) => n__law_reached a.1 a.2) (eCons (eLi false (eLi false (eTu (eCons eI (eOne eI))))) (eOne (eLi false eI))) eB := by
  rintro ⟨boxes', numbers'⟩ ds h
  show SatC _ (n__law_reached boxes' numbers') _
  unfold n__law_reached
  exact satC_of (L := fun (_ : Unit) => []) (G' := fun (_ : Unit) => [.any, .any, .any, .any, .any, .any]) (n := 2) (N := 6) (b := m__law_reached) rfl ((inil_cons inil_one) _ _ h) rfl ((vs_asg (ve_lst (vl_cons (u := (N.bind (N.ix numbers' 0) fun x139 => N.ok [x139])) (ve_z (vz_2 (v := (N.ix numbers' 0)) vz_var vz_i o_ix nx_ix) zf_I) vl_nil)) vg_n (fun reached' => (vs_for (GI := fun (y : (List Int)) => [.val (eLi false (eLi false (eTu (eCons eI (eOne eI))))) boxes', .val (eLi false eI) numbers', .val (eLi true eI) y, .any, .any, .any]) (s0 := reached') (vi_l (ve_varF zf_L) (fz_z zf_L)) vg_n ent_id (fun (turn' : Int) (s141 : (List Int)) => (vs_one (vs_for (GI := fun (y : (List Int)) => [.val (eLi false (eLi false (eTu (eCons eI (eOne eI))))) boxes', .val (eLi false eI) numbers', .val (eLi true eI) y, .val eI turn', .any, .any]) (s0 := s141) (vi_l (ve_varF zf_L) (fz_z zf_L)) vg_n ent_id (fun (number'1 : Int) (s157 : (List Int)) => (vs_one (vs_if (vt_and (vt_z (vz_2 (v := (N.gb (gIn true (D.int number'1) (D.lst true ((s157).map fun (z : Int) => (D.int z)))))) vz_var vz_var (o_in (neg := true) fx_I (fx_L fx_I)) nx_gb2)) (vt_e (ve_c (v := (N.bind (lcN (fun (k'3 : Int) => (N.ok true)) (fun (k'3 : Int) => (N.bind (N.ix boxes' number'1) fun x164 => N.bind (N.ix boxes' k'3) fun x165 => (n__law_touch x164 x165))) s157) fun x168 => N.ok (List.any x168 id))) (va_one (ve_lcB (w := (lcN (fun (k'3 : Int) => (N.ok true)) (fun (k'3 : Int) => (N.bind (N.ix boxes' number'1) fun x164 => N.bind (N.ix boxes' k'3) fun x165 => (n__law_touch x164 x165))) s157)) (GI := [.val (eLi false (eLi false (eTu (eCons eI (eOne eI))))) boxes', .val (eLi false eI) numbers', .any, .val eI turn', .val eI number'1, .any]) zf_I vg_n ent_id (fun (k'3 : Int) => vt_true) (fun (k'3 : Int) => (ve_call (v := (N.bind (N.ix boxes' number'1) fun x164 => N.bind (N.ix boxes' k'3) fun x165 => (n__law_touch x164 x165))) (va_cons (u := (N.bind (N.ix boxes' number'1) fun x166 => N.bind (N.ix boxes' k'3) fun x167 => N.ok (x166, x167))) (ve_z (vz_2 (v := (N.ix boxes' number'1)) vz_var vz_var o_ix nx_ix) zf_L) (va_one (ve_z (vz_2 (v := (N.ix boxes' k'3)) vz_var vz_var o_ix nx_ix) zf_L))) vf__law_touch (fzl_cons (fz_z zf_L) (fzl_one (fz_z zf_L))) xt )) (fun (k'3 : Int) => ent_id) (fun (k'3 : Int) => ent_id))) c_any zf_B nx_p1 )) ent_id) (vs_appP (ve_varF zf_I) (vs_end (ent_cons se_id (ent_cons se_id (ent_cons se_id (ent_cons se_id (ent_cons se_any (ent_cons se_any ent_nil)))))))) (vs_doc (vs_end (ent_cons se_id (ent_cons se_id (ent_cons se_id (ent_cons se_id (ent_cons se_any (ent_cons se_any ent_nil))))))))))) (fun (s170 : (List Int)) => (vs_end (ent_cons se_id (ent_cons se_id (ent_cons se_id (ent_cons se_any (ent_cons se_any (ent_cons se_any ent_nil))))))))))) (fun (s172 : (List Int)) => (vs_ret (ve_2 (v := (N.gb (gEq (D.lst false (((sortI s172)).map fun (z : Int) => (D.int z))) (D.lst false ((numbers').map fun (z : Int) => (D.int z)))))) (ve_sorted (w := N.ok (sortI s172)) (va_one (ve_var (fz_L (fz_z zf_I))))) (ve_varF zf_L) (o_eq (fn_L fn_I) (fn_L fn_I)) zf_B nx_gb2) (fun a => a) (fun a d τ h s => h)))))))
@[irreducible] noncomputable def n__law_together (boxes' : (List (List (Int × Int)))) (found' : (List ((List Int) × (List (Int × Int))))) : N Bool := NS.f (σ := Unit) (κ := Unit) (
N.s (N.ok found') fun x300 =>
NS.s (forN (fun (p237 : ((List Int) × (List (Int × Int)))) (s238 : Unit) =>
N.s (N.not (n__law_reached boxes' p237.1)) fun b298 => if b298 = true then
NS.rt false
else
N.s (N.ok p237.1) fun x297 =>
NS.s (forN (fun (number'1 : Int) (s269 : Unit) =>
N.s (N.range ((boxes').length : Int)) fun x295 =>
NS.s (forN (fun (k'3 : Int) (s283 : Unit) =>
N.s (N.and (N.gb (gIn true (D.int k'3) (D.lst false ((p237.1).map fun (z : Int) => (D.int z))))) (N.bind (N.ix boxes' number'1) fun x289 => N.bind (N.ix boxes' k'3) fun x290 => (n__law_touch x289 x290))) fun b293 => if b293 = true then
NS.rt false
else
NS.nx ()) x295 ()) fun s294 =>
NS.nx ()) x297 ()) fun s296 =>
NS.nx ()) x300 ()) fun s299 =>
NS.rt true)
theorem vf__law_together : VF f__law_together (fun (a : ((List (List (Int × Int))) × (List ((List Int) × (List (Int × Int)))))) => n__law_together a.1 a.2) (eCons (eLi false (eLi false (eTu (eCons eI (eOne eI))))) (eOne (eLi false (eTu (eCons (eLi false eI) (eOne (eLi false (eTu (eCons eI (eOne eI)))))))))) eB := by
  rintro ⟨boxes', found'⟩ ds h
  show SatC _ (n__law_together boxes' found') _
  unfold n__law_together
  exact satC_of (L := fun (_ : Unit) => []) (G' := fun (_ : Unit) => [.any, .any, .any, .any, .any, .any]) (n := 2) (N := 6) (b := m__law_together) rfl ((inil_cons inil_one) _ _ h) rfl ((vs_for (GI := fun (y : Unit) => [.val (eLi false (eLi false (eTu (eCons eI (eOne eI))))) boxes', .val (eLi false (eTu (eCons (eLi false eI) (eOne (eLi false (eTu (eCons eI (eOne eI)))))))) found', .any, .any, .any, .any]) (s0 := ()) (vi_l (ve_varF zf_L) (fz_z zf_L)) (vg_t (vgs_cons vg_n (vgs_one vg_n)) (len_cons len_one)) ent_id (fun (p237 : ((List Int) × (List (Int × Int)))) (s238 : Unit) => (vs_if (vt_not (vt_e (ve_call (v := (n__law_reached boxes' p237.1)) (va_cons (u := N.ok (boxes', p237.1)) (ve_varF zf_L) (va_one (ve_varF zf_L))) vf__law_reached (fzl_cons (fz_z zf_L) (fzl_one (fz_z zf_L))) xt ))) (vs_stop (vs_retP (ve_z vz_b zf_B) (fun a => a) (fun a d τ h s => h))) (vs_doc (vs_one (vs_for (GI := fun (y : Unit) => [.val (eLi false (eLi false (eTu (eCons eI (eOne eI))))) boxes', .val (eLi false (eTu (eCons (eLi false eI) (eOne (eLi false (eTu (eCons eI (eOne eI)))))))) found', .val (eLi false eI) p237.1, .val (eLi false (eTu (eCons eI (eOne eI)))) p237.2, .any, .any]) (s0 := ()) (vi_l (ve_varF zf_L) (fz_z zf_L)) vg_n ent_id (fun (number'1 : Int) (s269 : Unit) => (vs_one (vs_for (GI := fun (y : Unit) => [.val (eLi false (eLi false (eTu (eCons eI (eOne eI))))) boxes', .val (eLi false (eTu (eCons (eLi false eI) (eOne (eLi false (eTu (eCons eI (eOne eI)))))))) found', .val (eLi false eI) p237.1, .val (eLi false (eTu (eCons eI (eOne eI)))) p237.2, .val eI number'1, .any]) (s0 := ()) (vi_r1 (w := (N.range ((boxes').length : Int))) (va_one (ve_z (vz_call (v := N.ok ((boxes').length : Int)) (vza_one vz_var) c_len nx_p1 ) zf_I))) vg_n ent_id (fun (k'3 : Int) (s283 : Unit) => (vs_one (vs_if (vt_and (vt_z (vz_2 (v := (N.gb (gIn true (D.int k'3) (D.lst false ((p237.1).map fun (z : Int) => (D.int z)))))) vz_var vz_var (o_in (neg := true) fx_I (fx_L fx_I)) nx_gb2)) (vt_e (ve_call (v := (N.bind (N.ix boxes' number'1) fun x289 => N.bind (N.ix boxes' k'3) fun x290 => (n__law_touch x289 x290))) (va_cons (u := (N.bind (N.ix boxes' number'1) fun x291 => N.bind (N.ix boxes' k'3) fun x292 => N.ok (x291, x292))) (ve_z (vz_2 (v := (N.ix boxes' number'1)) vz_var vz_var o_ix nx_ix) zf_L) (va_one (ve_z (vz_2 (v := (N.ix boxes' k'3)) vz_var vz_var o_ix nx_ix) zf_L))) vf__law_touch (fzl_cons (fz_z zf_L) (fzl_one (fz_z zf_L))) xt )) ent_id) (vs_stop (vs_retP (ve_z vz_b zf_B) (fun a => a) (fun a d τ h s => h))) (vs_doc (vs_end (ent_cons se_id (ent_cons se_id (ent_cons se_id (ent_cons se_id (ent_cons se_id (ent_cons se_any ent_nil))))))))))) (fun (s294 : Unit) => (vs_end (ent_cons se_id (ent_cons se_id (ent_cons se_id (ent_cons se_id (ent_cons se_any (ent_cons se_any ent_nil))))))))))) (fun (s296 : Unit) => (vs_end (ent_cons se_id (ent_cons se_id (ent_cons se_any (ent_cons se_any (ent_cons se_any (ent_cons se_any ent_nil))))))))))))) (fun (s299 : Unit) => (vs_retP (ve_z vz_b zf_B) (fun a => a) (fun a d τ h s => h)))))
@[irreducible] noncomputable def n__law_third (span' : (Int × Int)) (cell' : Int) : N Int := NS.f (σ := Unit) (κ := Unit) (
N.s (N.bind (N.mul 3 span'.1) fun x309 => N.bind (N.bind (N.mod cell' 4) fun x308 => (N.mul (span'.2 - span'.1) x308)) fun x310 => N.ok (x309 + x310)) fun x311 => NS.rt x311)
theorem vf__law_third : VF f__law_third (fun (a : ((Int × Int) × Int)) => n__law_third a.1 a.2) (eCons (eTu (eCons eI (eOne eI))) (eOne eI)) eI := by
  rintro ⟨span', cell'⟩ ds h
  show SatC _ (n__law_third span' cell') _
  unfold n__law_third
  exact satC_of (L := fun (_ : Unit) => []) (G' := fun (_ : Unit) => [.any, .any]) (n := 2) (N := 2) (b := m__law_third) rfl ((inil_cons inil_one) _ _ h) rfl ((vs_ret (ve_z (vz_2 (v := (N.bind (N.mul 3 span'.1) fun x309 => N.bind (N.bind (N.mod cell' 4) fun x308 => (N.mul (span'.2 - span'.1) x308)) fun x310 => N.ok (x309 + x310))) (vz_2 (v := (N.mul 3 span'.1)) vz_i (vz_2 (v := N.ok span'.1) vz_var (vz_k (k := 0)) (o_ixT pt_0) nx_p2) o_mul nx_mul) (vz_2 (v := (N.bind (N.mod cell' 4) fun x308 => (N.mul (span'.2 - span'.1) x308))) (vz_2 (v := N.ok (span'.2 - span'.1)) (vz_2 (v := N.ok span'.2) vz_var (vz_k (k := 1)) (o_ixT (pt_s pt_1)) nx_p2) (vz_2 (v := N.ok span'.1) vz_var (vz_k (k := 0)) (o_ixT pt_0) nx_p2) o_sub nx_p2) (vz_2 (v := (N.mod cell' 4)) vz_var vz_i o_mod nx_mod) o_mul nx_mul) o_add nx_p2) zf_I) (fun a => a) (fun a d τ h s => h)))
@[irreducible] noncomputable def n__law_within (point' : (List Int)) (box' : (List (Int × Int))) : N Bool := NS.f (σ := Unit) (κ := Unit) (
N.s (N.range ((box').length : Int)) fun x357 =>
NS.s (forN (fun (k' : Int) (s337 : Unit) =>
N.s (N.or (N.bind (N.ix point' k') fun x349 => N.bind (N.bind (N.bind (N.ix box' k') fun x347 => N.ok x347.1) fun x348 => (N.mul 3 x348)) fun x350 => N.ok (decide (x349 < x350))) (N.bind (N.ix point' k') fun x353 => N.bind (N.bind (N.bind (N.ix box' k') fun x351 => N.ok x351.2) fun x352 => (N.mul 3 x352)) fun x354 => N.ok (decide (x354 < x353)))) fun b355 => if b355 = true then
NS.rt false
else
NS.nx ()) x357 ()) fun s356 =>
NS.rt true)
theorem vf__law_within : VF f__law_within (fun (a : ((List Int) × (List (Int × Int)))) => n__law_within a.1 a.2) (eCons (eLi false eI) (eOne (eLi false (eTu (eCons eI (eOne eI)))))) eB := by
  rintro ⟨point', box'⟩ ds h
  show SatC _ (n__law_within point' box') _
  unfold n__law_within
  exact satC_of (L := fun (_ : Unit) => []) (G' := fun (_ : Unit) => [.any, .any, .any]) (n := 2) (N := 3) (b := m__law_within) rfl ((inil_cons inil_one) _ _ h) rfl ((vs_for (GI := fun (y : Unit) => [.val (eLi false eI) point', .val (eLi false (eTu (eCons eI (eOne eI)))) box', .any]) (s0 := ()) (vi_r1 (w := (N.range ((box').length : Int))) (va_one (ve_z (vz_call (v := N.ok ((box').length : Int)) (vza_one vz_var) c_len nx_p1 ) zf_I))) vg_n ent_id (fun (k' : Int) (s337 : Unit) => (vs_one (vs_if (vt_or (vt_z (vz_2 (v := (N.bind (N.ix point' k') fun x349 => N.bind (N.bind (N.bind (N.ix box' k') fun x347 => N.ok x347.1) fun x348 => (N.mul 3 x348)) fun x350 => N.ok (decide (x349 < x350)))) (vz_2 (v := (N.ix point' k')) vz_var vz_var o_ix nx_ix) (vz_2 (v := (N.bind (N.bind (N.ix box' k') fun x347 => N.ok x347.1) fun x348 => (N.mul 3 x348))) vz_i (vz_2 (v := (N.bind (N.ix box' k') fun x347 => N.ok x347.1)) (vz_2 (v := (N.ix box' k')) vz_var vz_var o_ix nx_ix) (vz_k (k := 0)) (o_ixT pt_0) nx_p2) o_mul nx_mul) o_lt nx_p2)) (vt_z (vz_2 (v := (N.bind (N.ix point' k') fun x353 => N.bind (N.bind (N.bind (N.ix box' k') fun x351 => N.ok x351.2) fun x352 => (N.mul 3 x352)) fun x354 => N.ok (decide (x354 < x353)))) (vz_2 (v := (N.ix point' k')) vz_var vz_var o_ix nx_ix) (vz_2 (v := (N.bind (N.bind (N.ix box' k') fun x351 => N.ok x351.2) fun x352 => (N.mul 3 x352))) vz_i (vz_2 (v := (N.bind (N.ix box' k') fun x351 => N.ok x351.2)) (vz_2 (v := (N.ix box' k')) vz_var vz_var o_ix nx_ix) (vz_k (k := 1)) (o_ixT (pt_s pt_1)) nx_p2) o_mul nx_mul) o_gt nx_p2)) ent_id) (vs_stop (vs_retP (ve_z vz_b zf_B) (fun a => a) (fun a d τ h s => h))) (vs_doc (vs_end (ent_cons se_id (ent_cons se_id (ent_cons se_any ent_nil)))))))) (fun (s356 : Unit) => (vs_retP (ve_z vz_b zf_B) (fun a => a) (fun a d τ h s => h)))))
@[irreducible] noncomputable def n__law_point_right (point' : (List Int)) (boxes' : (List (List (Int × Int)))) (found' : (List ((List Int) × (List (Int × Int))))) : N Bool := NS.f (σ := Unit) (κ := Unit) (
N.s (N.ok found') fun x383 =>
NS.s (forN (fun (p370 : ((List Int) × (List (Int × Int)))) (s371 : Int) =>
N.s (N.bind (lcN (fun (number'1 : Int) => (N.ok true)) (fun (number'1 : Int) => (N.bind (N.ix boxes' number'1) fun x377 => (n__law_within point' x377))) p370.1) fun x379 => N.ok (List.any x379 id)) fun b381 => if b381 = true then
N.s (N.ok (s371 + 1)) fun many'1 =>
N.s (N.not (n__law_within point' p370.2)) fun b380 => if b380 = true then
NS.rt false
else
NS.nx many'1
else
NS.nx s371) x383 0) fun s382 =>
NS.rt (decide (s382 = 1)))
theorem vf__law_point_right : VF f__law_point_right (fun (a : ((List Int) × (List (List (Int × Int))) × (List ((List Int) × (List (Int × Int)))))) => n__law_point_right a.1 a.2.1 a.2.2) (eCons (eLi false eI) (eCons (eLi false (eLi false (eTu (eCons eI (eOne eI))))) (eOne (eLi false (eTu (eCons (eLi false eI) (eOne (eLi false (eTu (eCons eI (eOne eI))))))))))) eB := by
  rintro ⟨point', boxes', found'⟩ ds h
  show SatC _ (n__law_point_right point' boxes' found') _
  unfold n__law_point_right
  exact satC_of (L := fun (_ : Unit) => []) (G' := fun (_ : Unit) => [.any, .any, .any, .any, .any, .any, .any]) (n := 3) (N := 7) (b := m__law_point_right) rfl ((inil_cons (inil_cons inil_one)) _ _ h) rfl ((vs_asgP (ve_z vz_i zf_I) vg_n (vs_for (GI := fun (y : Int) => [.val (eLi false eI) point', .val (eLi false (eLi false (eTu (eCons eI (eOne eI))))) boxes', .val (eLi false (eTu (eCons (eLi false eI) (eOne (eLi false (eTu (eCons eI (eOne eI)))))))) found', .val eI y, .any, .any, .any]) (s0 := 0) (vi_l (ve_varF zf_L) (fz_z zf_L)) (vg_t (vgs_cons vg_n (vgs_one vg_n)) (len_cons len_one)) ent_id (fun (p370 : ((List Int) × (List (Int × Int)))) (s371 : Int) => (vs_one (vs_if (vt_e (ve_c (v := (N.bind (lcN (fun (number'1 : Int) => (N.ok true)) (fun (number'1 : Int) => (N.bind (N.ix boxes' number'1) fun x377 => (n__law_within point' x377))) p370.1) fun x379 => N.ok (List.any x379 id))) (va_one (ve_lc (w := (lcN (fun (number'1 : Int) => (N.ok true)) (fun (number'1 : Int) => (N.bind (N.ix boxes' number'1) fun x377 => (n__law_within point' x377))) p370.1)) (GI := [.val (eLi false eI) point', .val (eLi false (eLi false (eTu (eCons eI (eOne eI))))) boxes', .val (eLi false (eTu (eCons (eLi false eI) (eOne (eLi false (eTu (eCons eI (eOne eI)))))))) found', .val eI s371, .val (eLi false eI) p370.1, .val (eLi false (eTu (eCons eI (eOne eI)))) p370.2, .any]) (vi_l (ve_varF zf_L) (fz_z zf_L)) vg_n ent_id (fun (number'1 : Int) => vt_true) (fun (number'1 : Int) => (ve_call (v := (N.bind (N.ix boxes' number'1) fun x377 => (n__law_within point' x377))) (va_cons (u := (N.bind (N.ix boxes' number'1) fun x378 => N.ok (point', x378))) (ve_varF zf_L) (va_one (ve_z (vz_2 (v := (N.ix boxes' number'1)) vz_var vz_var o_ix nx_ix) zf_L))) vf__law_within (fzl_cons (fz_z zf_L) (fzl_one (fz_z zf_L))) xt )) (fun (number'1 : Int) => ent_id) (fun (number'1 : Int) => ent_id))) c_any zf_B nx_p1 )) (vs_assoc (vs_asg (ve_z (vz_2 (v := N.ok (s371 + 1)) vz_var vz_i o_add nx_p2) zf_I) vg_n (fun many'1 => (vs_if (vt_not (vt_e (ve_call (v := (n__law_within point' p370.2)) (va_cons (u := N.ok (point', p370.2)) (ve_varF zf_L) (va_one (ve_varF zf_L))) vf__law_within (fzl_cons (fz_z zf_L) (fzl_one (fz_z zf_L))) xt ))) (vs_stop (vs_retP (ve_z vz_b zf_B) (fun a => a) (fun a d τ h s => h))) (vs_doc (vs_one (vs_doc (vs_end (ent_cons se_id (ent_cons se_id (ent_cons se_id (ent_cons se_id (ent_cons se_any (ent_cons se_any (ent_cons se_any ent_nil))))))))))))))) (vs_doc (vs_end (ent_cons se_id (ent_cons se_id (ent_cons se_id (ent_cons se_id (ent_cons se_any (ent_cons se_any (ent_cons se_any ent_nil)))))))))))) (fun (s382 : Int) => (vs_retP (ve_z (vz_2 (v := N.ok (decide (s382 = 1))) vz_var vz_i o_eqI nx_p2) zf_B) (fun a => a) (fun a d τ h s => h))))))
@[irreducible] noncomputable def n_law (script' : (List Int)) : N Bool := NS.f (σ := Unit) (κ := Unit) (
N.s (N.bind (N.bind (n__law_cell_at script' 0) fun x409 => (N.mod x409 3)) fun x410 => N.ok (1 + x410)) fun size' =>
N.s (N.bind (N.bind (N.bind (n__law_cell_at script' 0) fun x411 => (N.div x411 3)) fun x412 => (N.mod x412 4)) fun x413 => (N.ix [10, 14, 22, 40] x413)) fun wide' =>
N.s (lcN (fun (cell' : Int) => (N.ok true)) (fun (cell' : Int) => (n__law_box cell' size' wide')) (cutL script' (some 2) (some 18))) fun boxes' =>
N.s (N.bind (lcN (fun (box' : (List (Int × Int))) => (N.ok true)) (fun (box' : (List (Int × Int))) => (N.ok box')) boxes') fun x414 => (n_islands x414)) fun found' =>
N.s (N.ok found') fun x448 =>
NS.s (forN (fun (p415 : ((List Int) × (List (Int × Int)))) (s416 : (List Int)) =>
N.s (N.cat s416 p415.1) fun every'1 =>
NS.nx every'1) x448 []) fun s417 =>
N.s (N.or (N.bind (N.lrange ((boxes').length : Int)) fun x418 => (N.gb (gNe (D.lst false (((sortI s417)).map fun (z : Int) => (D.int z))) (D.lst false ((x418).map fun (z : Int) => (D.int z)))))) (N.not (n__law_together boxes' found'))) fun b447 => if b447 = true then
NS.rt false
else
N.s (N.ok (List.zip (cutL script' (some 2) (some 18)) boxes')) fun x446 =>
NS.s (forN (fun (p419 : (Int × (List (Int × Int)))) (s420 : Unit) =>
N.s (lcN (fun (p425 : (Int × (Int × Int))) => (N.ok true)) (fun (p425 : (Int × (Int × Int))) => (N.bind (n__law_mix p419.1 (50 + p425.1)) fun x426 => (n__law_third p425.2 x426))) (enumN 0 p419.2)) fun point'1 =>
N.s (N.not (n__law_point_right point'1 boxes' found')) fun b428 => if b428 = true then
NS.rt false
else
NS.nx ()) x446 ()) fun s429 =>
N.s (N.lrange ((boxes').length : Int)) fun order' =>
N.s (N.bind (N.bind (n__law_cell_at script' 1) fun x430 => (N.div x430 2)) fun x431 => (N.mod x431 (((boxes').length : Int) + 1))) fun cut' =>
N.s (N.cat (cutL order' (some cut') none) (cutL order' none (some cut'))) fun order'1 =>
NS.s (
N.s (N.bind (N.bind (n__law_cell_at script' 1) fun x432 => (N.mod x432 2)) fun x433 => N.ok (decide (x433 = 1))) fun b445 => if b445 = true then
N.s (N.ok (List.reverse order'1)) fun order'3 =>
NS.nx order'3
else
NS.nx order'1) fun s434 =>
N.s (N.bind (lcN (fun (number' : Int) => (N.ok true)) (fun (number' : Int) => (N.ix boxes' number')) s434) fun x435 => (n_islands x435)) fun again' =>
N.s (N.bind (lcN (fun (p436 : ((List Int) × (List (Int × Int)))) => (N.ok true)) (fun (p436 : ((List Int) × (List (Int × Int)))) => (N.bind (N.bind (lcN (fun (k' : Int) => (N.ok true)) (fun (k' : Int) => (N.ix s434 k')) p436.1) fun x437 => N.ok (sortI x437)) fun x438 => N.ok (x438, p436.2))) again') fun x440 => (sortN (fun (z : ((List Int) × (List (Int × Int)))) => (D.tup [(D.lst false ((z.1).map fun (z : Int) => (D.int z))), (D.lst false ((z.2).map fun (z : (Int × Int)) => (D.tup [(D.int z.1), (D.int z.2)])))])) x440)) fun turned' =>
N.s (N.bind (N.bind (lcN (fun (p441 : ((List Int) × (List (Int × Int)))) => (N.ok true)) (fun (p441 : ((List Int) × (List (Int × Int)))) => (N.ok (p441.1, p441.2))) found') fun x442 => (sortN (fun (z : ((List Int) × (List (Int × Int)))) => (D.tup [(D.lst false ((z.1).map fun (z : Int) => (D.int z))), (D.lst false ((z.2).map fun (z : (Int × Int)) => (D.tup [(D.int z.1), (D.int z.2)])))])) x442)) fun x443 => (N.gb (gEq (D.lst false ((turned').map fun (z : ((List Int) × (List (Int × Int)))) => (D.tup [(D.lst false ((z.1).map fun (z : Int) => (D.int z))), (D.lst false ((z.2).map fun (z : (Int × Int)) => (D.tup [(D.int z.1), (D.int z.2)])))]))) (D.lst false ((x443).map fun (z : ((List Int) × (List (Int × Int)))) => (D.tup [(D.lst false ((z.1).map fun (z : Int) => (D.int z))), (D.lst false ((z.2).map fun (z : (Int × Int)) => (D.tup [(D.int z.1), (D.int z.2)])))])))))) fun x444 => NS.rt x444)
theorem vf_law : VF f_law (fun (a : (List Int)) => n_law a) (eOne eCn) eB := by
  rintro script' ds h
  show SatC _ (n_law script') _
  unfold n_law
  exact satC_of (L := fun (_ : Unit) => []) (G' := fun (_ : Unit) => [.any, .any, .any, .any, .any, .any, .any, .any, .any, .any, .any, .any, .any, .any, .any, .any, .any, .any]) (n := 1) (N := 18) (b := m_law) rfl (inil_one _ _ h) rfl ((vs_asg (ve_2 (v := (N.bind (N.bind (n__law_cell_at script' 0) fun x409 => (N.mod x409 3)) fun x410 => N.ok (1 + x410))) (ve_z vz_i zf_I) (ve_2 (v := (N.bind (n__law_cell_at script' 0) fun x409 => (N.mod x409 3))) (ve_call (v := (n__law_cell_at script' 0)) (va_cons (u := N.ok (script', 0)) (ve_varF zf_C) (va_one (ve_z vz_i zf_I))) vf__law_cell_at (fzl_cons (fz_z zf_C) (fzl_one (fz_z zf_I))) xt ) (ve_z vz_i zf_I) o_mod zf_I nx_mod) o_add zf_I nx_p2) vg_n (fun size' => (vs_asg (ve_2 (v := (N.bind (N.bind (N.bind (n__law_cell_at script' 0) fun x411 => (N.div x411 3)) fun x412 => (N.mod x412 4)) fun x413 => (N.ix [10, 14, 22, 40] x413))) (ve_lst (vl_cons (u := N.ok [10, 14, 22, 40]) (ve_z vz_i zf_I) (vl_cons (u := N.ok [14, 22, 40]) (ve_z vz_i zf_I) (vl_cons (u := N.ok [22, 40]) (ve_z vz_i zf_I) (vl_cons (u := N.ok [40]) (ve_z vz_i zf_I) vl_nil))))) (ve_2 (v := (N.bind (N.bind (n__law_cell_at script' 0) fun x411 => (N.div x411 3)) fun x412 => (N.mod x412 4))) (ve_2 (v := (N.bind (n__law_cell_at script' 0) fun x411 => (N.div x411 3))) (ve_call (v := (n__law_cell_at script' 0)) (va_cons (u := N.ok (script', 0)) (ve_varF zf_C) (va_one (ve_z vz_i zf_I))) vf__law_cell_at (fzl_cons (fz_z zf_C) (fzl_one (fz_z zf_I))) xt ) (ve_z vz_i zf_I) o_div zf_I nx_div) (ve_z vz_i zf_I) o_mod zf_I nx_mod) o_ix zf_I nx_ix) vg_n (fun wide' => (vs_asg (ve_lc (w := (lcN (fun (cell' : Int) => (N.ok true)) (fun (cell' : Int) => (n__law_box cell' size' wide')) (cutL script' (some 2) (some 18)))) (GI := [.val eCn script', .val eI size', .val eI wide', .any, .any, .any, .any, .any, .any, .any, .any, .any, .any, .any, .any, .any, .any, .any]) (vi_l (ve_slice (w := N.ok (cutL script' (some 2) (some 18))) (ve_varF zf_C) (fz_z zf_C) (vp_some (ve_z vz_i zf_I)) (vp_some (ve_z vz_i zf_I)) sl_C (fun _ _ _ _ h => by cases h)) (fz_L (fz_z zf_I))) vg_n ent_id (fun (cell' : Int) => vt_true) (fun (cell' : Int) => (ve_call (v := (n__law_box cell' size' wide')) (va_cons (u := N.ok (cell', size', wide')) (ve_varF zf_I) (va_cons (u := N.ok (size', wide')) (ve_varF zf_I) (va_one (ve_varF zf_I)))) vf__law_box (fzl_cons (fz_z zf_I) (fzl_cons (fz_z zf_I) (fzl_one (fz_z zf_I)))) xt )) (fun (cell' : Int) => ent_id) (fun (cell' : Int) => ent_id)) vg_n (fun boxes' => (vs_asg (ve_call (v := (N.bind (lcN (fun (box' : (List (Int × Int))) => (N.ok true)) (fun (box' : (List (Int × Int))) => (N.ok box')) boxes') fun x414 => (n_islands x414))) (va_one (ve_lc (w := (lcN (fun (box' : (List (Int × Int))) => (N.ok true)) (fun (box' : (List (Int × Int))) => (N.ok box')) boxes')) (GI := [.val eCn script', .val eI size', .val eI wide', .val (eLi false (eLi false (eTu (eCons eI (eOne eI))))) boxes', .any, .any, .any, .any, .any, .any, .any, .any, .any, .any, .any, .any, .any, .any]) (vi_l (ve_var (fz_L (fz_L (fz_z zf_T)))) (fz_z zf_L)) vg_n ent_id (fun (box' : (List (Int × Int))) => vt_true) (fun (box' : (List (Int × Int))) => (ve_lstOf (va_one (ve_varF zf_L)) (fz_z zf_L))) (fun (box' : (List (Int × Int))) => ent_id) (fun (box' : (List (Int × Int))) => ent_id))) vf_islands (fzl_one (fz_L (fz_L (fz_z zf_T)))) xt ) vg_n (fun found' => (vs_asgP (ve_lst vl_nil) vg_n (vs_for (GI := fun (y : (List Int)) => [.val eCn script', .val eI size', .val eI wide', .val (eLi false (eLi false (eTu (eCons eI (eOne eI))))) boxes', .any, .val (eLi false (eTu (eCons (eLi false eI) (eOne (eLi false (eTu (eCons eI (eOne eI)))))))) found', .any, .val (eLi true eI) y, .any, .any, .any, .any, .any, .any, .any, .any, .any, .any]) (s0 := []) (vi_l (ve_var (fz_L (fz_z zf_T))) (fz_z zf_L)) (vg_t (vgs_cons vg_n (vgs_one vg_n)) (len_cons len_one)) ent_id (fun (p415 : ((List Int) × (List (Int × Int)))) (s416 : (List Int)) => (vs_one (vs_asg (ve_cat (u := (N.cat s416 p415.1)) (ve_var (fz_L (fz_z zf_I))) (ve_varF zf_L) (fz_z zf_L) (fz_z zf_L)) vg_n (fun every'1 => (vs_end (ent_cons se_id (ent_cons se_id (ent_cons se_id (ent_cons se_id (ent_cons se_any (ent_cons se_id (ent_cons se_any (ent_cons se_id (ent_cons se_any (ent_cons se_any (ent_cons se_any (ent_cons se_any (ent_cons se_any (ent_cons se_any (ent_cons se_any (ent_cons se_any (ent_cons se_any (ent_cons se_any ent_nil))))))))))))))))))))))) (fun (s417 : (List Int)) => (vs_if (vt_or (vt_e (ve_2 (v := (N.bind (N.lrange ((boxes').length : Int)) fun x418 => (N.gb (gNe (D.lst false (((sortI s417)).map fun (z : Int) => (D.int z))) (D.lst false ((x418).map fun (z : Int) => (D.int z))))))) (ve_sorted (w := N.ok (sortI s417)) (va_one (ve_var (fz_L (fz_z zf_I))))) (ve_lstRg (w := (N.lrange ((boxes').length : Int))) (ve_z (vz_call (v := N.ok ((boxes').length : Int)) (vza_one vz_var) c_len nx_p1 ) zf_I)) (o_ne (fn_L fn_I) (fn_L fn_I)) zf_B nx_gb2)) (vt_not (vt_e (ve_call (v := (n__law_together boxes' found')) (va_cons (u := N.ok (boxes', found')) (ve_varF zf_L) (va_one (ve_varF zf_L))) vf__law_together (fzl_cons (fz_z zf_L) (fzl_one (fz_z zf_L))) xt ))) ent_id) (vs_stop (vs_retP (ve_z vz_b zf_B) (fun a => a) (fun a d τ h s => h))) (vs_doc (vs_for (GI := fun (y : Unit) => [.val eCn script', .val eI size', .val eI wide', .val (eLi false (eLi false (eTu (eCons eI (eOne eI))))) boxes', .any, .val (eLi false (eTu (eCons (eLi false eI) (eOne (eLi false (eTu (eCons eI (eOne eI)))))))) found', .any, .val (eLi false eI) s417, .any, .any, .any, .any, .any, .any, .any, .any, .any, .any]) (s0 := ()) (vi_zip (w := N.ok (List.zip (cutL script' (some 2) (some 18)) boxes')) (va_cons (u := N.ok ((cutL script' (some 2) (some 18)), boxes')) (ve_slice (w := N.ok (cutL script' (some 2) (some 18))) (ve_varF zf_C) (fz_z zf_C) (vp_some (ve_z vz_i zf_I)) (vp_some (ve_z vz_i zf_I)) sl_C (fun _ _ _ _ h => by cases h)) (va_one (ve_varF zf_L))) (fz_L (fz_z zf_I)) (fz_z zf_L)) (vg_t (vgs_cons vg_n (vgs_one vg_n)) (len_cons len_one)) ent_id (fun (p419 : (Int × (List (Int × Int)))) (s420 : Unit) => (vs_asg (ve_lc (w := (lcN (fun (p425 : (Int × (Int × Int))) => (N.ok true)) (fun (p425 : (Int × (Int × Int))) => (N.bind (n__law_mix p419.1 (50 + p425.1)) fun x426 => (n__law_third p425.2 x426))) (enumN 0 p419.2))) (GI := [.val eCn script', .val eI size', .val eI wide', .val (eLi false (eLi false (eTu (eCons eI (eOne eI))))) boxes', .val eI p419.1, .val (eLi false (eTu (eCons (eLi false eI) (eOne (eLi false (eTu (eCons eI (eOne eI)))))))) found', .val (eLi false (eTu (eCons eI (eOne eI)))) p419.2, .val (eLi false eI) s417, .any, .any, .any, .any, .any, .any, .any, .any, .any, .any]) (vi_enum (w := N.ok (enumN 0 p419.2)) (va_one (ve_varF zf_L)) (fz_z zf_L)) (vg_t (vgs_cons vg_n (vgs_one vg_n)) (len_cons len_one)) ent_id (fun (p425 : (Int × (Int × Int))) => vt_true) (fun (p425 : (Int × (Int × Int))) => (ve_call (v := (N.bind (n__law_mix p419.1 (50 + p425.1)) fun x426 => (n__law_third p425.2 x426))) (va_cons (u := (N.bind (n__law_mix p419.1 (50 + p425.1)) fun x427 => N.ok (p425.2, x427))) (ve_varF zf_T) (va_one (ve_call (v := (n__law_mix p419.1 (50 + p425.1))) (va_cons (u := N.ok (p419.1, (50 + p425.1))) (ve_varF zf_I) (va_one (ve_z (vz_2 (v := N.ok (50 + p425.1)) vz_i vz_var o_add nx_p2) zf_I))) vf__law_mix (fzl_cons (fz_z zf_I) (fzl_one (fz_z zf_I))) xt ))) vf__law_third (fzl_cons (fz_z zf_T) (fzl_one (fz_z zf_I))) xt )) (fun (p425 : (Int × (Int × Int))) => ent_id) (fun (p425 : (Int × (Int × Int))) => ent_id)) vg_n (fun point'1 => (vs_one (vs_if (vt_not (vt_e (ve_call (v := (n__law_point_right point'1 boxes' found')) (va_cons (u := N.ok (point'1, boxes', found')) (ve_var (fz_L (fz_z zf_I))) (va_cons (u := N.ok (boxes', found')) (ve_varF zf_L) (va_one (ve_varF zf_L)))) vf__law_point_right (fzl_cons (fz_z zf_L) (fzl_cons (fz_z zf_L) (fzl_one (fz_z zf_L)))) xt ))) (vs_stop (vs_retP (ve_z vz_b zf_B) (fun a => a) (fun a d τ h s => h))) (vs_doc (vs_end (ent_cons se_id (ent_cons se_id (ent_cons se_id (ent_cons se_id (ent_cons se_any (ent_cons se_id (ent_cons se_any (ent_cons se_id (ent_cons se_any (ent_cons se_any (ent_cons se_any (ent_cons se_any (ent_cons se_any (ent_cons se_any (ent_cons se_any (ent_cons se_any (ent_cons se_any (ent_cons se_any ent_nil))))))))))))))))))))))))) (fun (s429 : Unit) => (vs_asg (ve_lstRg (w := (N.lrange ((boxes').length : Int))) (ve_z (vz_call (v := N.ok ((boxes').length : Int)) (vza_one vz_var) c_len nx_p1 ) zf_I)) vg_n (fun order' => (vs_asg (ve_2 (v := (N.bind (N.bind (n__law_cell_at script' 1) fun x430 => (N.div x430 2)) fun x431 => (N.mod x431 (((boxes').length : Int) + 1)))) (ve_2 (v := (N.bind (n__law_cell_at script' 1) fun x430 => (N.div x430 2))) (ve_call (v := (n__law_cell_at script' 1)) (va_cons (u := N.ok (script', 1)) (ve_varF zf_C) (va_one (ve_z vz_i zf_I))) vf__law_cell_at (fzl_cons (fz_z zf_C) (fzl_one (fz_z zf_I))) xt ) (ve_z vz_i zf_I) o_div zf_I nx_div) (ve_z (vz_2 (v := N.ok (((boxes').length : Int) + 1)) (vz_call (v := N.ok ((boxes').length : Int)) (vza_one vz_var) c_len nx_p1 ) vz_i o_add nx_p2) zf_I) o_mod zf_I nx_mod) vg_n (fun cut' => (vs_asg (ve_cat (u := (N.cat (cutL order' (some cut') none) (cutL order' none (some cut')))) (ve_slice (w := N.ok (cutL order' (some cut') none)) (ve_var (fz_L (fz_z zf_I))) (fz_z zf_L) (vp_some (ve_varF zf_I)) vp_none sl_L (fun _ _ _ _ h => by cases h)) (ve_slice (w := N.ok (cutL order' none (some cut'))) (ve_varF zf_L) (fz_z zf_L) vp_none (vp_some (ve_varF zf_I)) sl_L (fun _ _ _ _ h => by cases h)) (fz_L (fz_z zf_I)) (fz_L (fz_z zf_I))) vg_n (fun order'1 => (vs_ifJ (GJ := fun (y : (List Int)) => [.val eCn script', .val eI size', .val eI wide', .val (eLi false (eLi false (eTu (eCons eI (eOne eI))))) boxes', .any, .val (eLi false (eTu (eCons (eLi false eI) (eOne (eLi false (eTu (eCons eI (eOne eI)))))))) found', .any, .val (eLi false eI) s417, .any, .any, .any, .any, .any, .val (eLi true eI) y, .val eI cut', .any, .any, .any]) (vt_e (ve_2 (v := (N.bind (N.bind (n__law_cell_at script' 1) fun x432 => (N.mod x432 2)) fun x433 => N.ok (decide (x433 = 1)))) (ve_2 (v := (N.bind (n__law_cell_at script' 1) fun x432 => (N.mod x432 2))) (ve_call (v := (n__law_cell_at script' 1)) (va_cons (u := N.ok (script', 1)) (ve_varF zf_C) (va_one (ve_z vz_i zf_I))) vf__law_cell_at (fzl_cons (fz_z zf_C) (fzl_one (fz_z zf_I))) xt ) (ve_z vz_i zf_I) o_mod zf_I nx_mod) (ve_z vz_i zf_I) o_eqI zf_B nx_p2)) (vs_one (vs_asg (ve_lstRev (w := N.ok (List.reverse order'1)) (ve_var (fz_L (fz_z zf_I))) (fz_z zf_L)) vg_n (fun order'3 => (vs_end ent_id)))) (vs_end ent_id) (fun s434 => (vs_asg (ve_call (v := (N.bind (lcN (fun (number' : Int) => (N.ok true)) (fun (number' : Int) => (N.ix boxes' number')) s434) fun x435 => (n_islands x435))) (va_one (ve_lc (w := (lcN (fun (number' : Int) => (N.ok true)) (fun (number' : Int) => (N.ix boxes' number')) s434)) (GI := [.val eCn script', .val eI size', .val eI wide', .val (eLi false (eLi false (eTu (eCons eI (eOne eI))))) boxes', .any, .val (eLi false (eTu (eCons (eLi false eI) (eOne (eLi false (eTu (eCons eI (eOne eI)))))))) found', .any, .val (eLi false eI) s417, .any, .any, .any, .any, .any, .val (eLi false eI) s434, .val eI cut', .any, .any, .any]) (vi_l (ve_var (fz_L (fz_z zf_I))) (fz_z zf_L)) vg_n ent_id (fun (number' : Int) => vt_true) (fun (number' : Int) => (ve_lstOf (va_one (ve_z (vz_2 (v := (N.ix boxes' number')) vz_var vz_var o_ix nx_ix) zf_L)) (fz_z zf_L))) (fun (number' : Int) => ent_id) (fun (number' : Int) => ent_id))) vf_islands (fzl_one (fz_L (fz_L (fz_z zf_T)))) xt ) vg_n (fun again' => (vs_asg (ve_sortedD (w := (N.bind (lcN (fun (p436 : ((List Int) × (List (Int × Int)))) => (N.ok true)) (fun (p436 : ((List Int) × (List (Int × Int)))) => (N.bind (N.bind (lcN (fun (k' : Int) => (N.ok true)) (fun (k' : Int) => (N.ix s434 k')) p436.1) fun x437 => N.ok (sortI x437)) fun x438 => N.ok (x438, p436.2))) again') fun x440 => (sortN (fun (z : ((List Int) × (List (Int × Int)))) => (D.tup [(D.lst false ((z.1).map fun (z : Int) => (D.int z))), (D.lst false ((z.2).map fun (z : (Int × Int)) => (D.tup [(D.int z.1), (D.int z.2)])))])) x440))) (va_one (ve_lc (w := (lcN (fun (p436 : ((List Int) × (List (Int × Int)))) => (N.ok true)) (fun (p436 : ((List Int) × (List (Int × Int)))) => (N.bind (N.bind (lcN (fun (k' : Int) => (N.ok true)) (fun (k' : Int) => (N.ix s434 k')) p436.1) fun x437 => N.ok (sortI x437)) fun x438 => N.ok (x438, p436.2))) again')) (GI := [.val eCn script', .val eI size', .val eI wide', .val (eLi false (eLi false (eTu (eCons eI (eOne eI))))) boxes', .any, .val (eLi false (eTu (eCons (eLi false eI) (eOne (eLi false (eTu (eCons eI (eOne eI)))))))) found', .any, .val (eLi false eI) s417, .any, .any, .any, .any, .any, .val (eLi false eI) s434, .val eI cut', .val (eLi false (eTu (eCons (eLi false eI) (eOne (eLi false (eTu (eCons eI (eOne eI)))))))) again', .any, .any]) (vi_l (ve_var (fz_L (fz_z zf_T))) (fz_z zf_L)) (vg_t (vgs_cons vg_n (vgs_one vg_n)) (len_cons len_one)) ent_id (fun (p436 : ((List Int) × (List (Int × Int)))) => vt_true) (fun (p436 : ((List Int) × (List (Int × Int)))) => (ve_tup (va_cons (u := (N.bind (N.bind (lcN (fun (k' : Int) => (N.ok true)) (fun (k' : Int) => (N.ix s434 k')) p436.1) fun x437 => N.ok (sortI x437)) fun x439 => N.ok (x439, p436.2))) (ve_sorted (w := (N.bind (lcN (fun (k' : Int) => (N.ok true)) (fun (k' : Int) => (N.ix s434 k')) p436.1) fun x437 => N.ok (sortI x437))) (va_one (ve_lc (w := (lcN (fun (k' : Int) => (N.ok true)) (fun (k' : Int) => (N.ix s434 k')) p436.1)) (GI := [.val eCn script', .val eI size', .val eI wide', .val (eLi false (eLi false (eTu (eCons eI (eOne eI))))) boxes', .any, .val (eLi false (eTu (eCons (eLi false eI) (eOne (eLi false (eTu (eCons eI (eOne eI)))))))) found', .any, .val (eLi false eI) s417, .val (eLi false eI) p436.1, .val (eLi false (eTu (eCons eI (eOne eI)))) p436.2, .any, .any, .any, .val (eLi false eI) s434, .val eI cut', .val (eLi false (eTu (eCons (eLi false eI) (eOne (eLi false (eTu (eCons eI (eOne eI)))))))) again', .any, .any]) (vi_l (ve_varF zf_L) (fz_z zf_L)) vg_n ent_id (fun (k' : Int) => vt_true) (fun (k' : Int) => (ve_z (vz_2 (v := (N.ix s434 k')) vz_var vz_var o_ix nx_ix) zf_I)) (fun (k' : Int) => ent_id) (fun (k' : Int) => ent_id)))) (va_one (ve_varF zf_L))) (fzl_cons (fz_L (fz_z zf_I)) (fzl_one (fz_z zf_L))) (len_cons len_one))) (fun (p436 : ((List Int) × (List (Int × Int)))) => ent_id) (fun (p436 : ((List Int) × (List (Int × Int)))) => ent_id))) (fz_L (fz_z zf_T)) (fx_T (fxl_cons (fx_L fx_I) (fxl_one (fx_L (fx_T (fxl_cons fx_I (fxl_one fx_I)))))))) vg_n (fun turned' => (vs_ret (ve_2 (v := (N.bind (N.bind (lcN (fun (p441 : ((List Int) × (List (Int × Int)))) => (N.ok true)) (fun (p441 : ((List Int) × (List (Int × Int)))) => (N.ok (p441.1, p441.2))) found') fun x442 => (sortN (fun (z : ((List Int) × (List (Int × Int)))) => (D.tup [(D.lst false ((z.1).map fun (z : Int) => (D.int z))), (D.lst false ((z.2).map fun (z : (Int × Int)) => (D.tup [(D.int z.1), (D.int z.2)])))])) x442)) fun x443 => (N.gb (gEq (D.lst false ((turned').map fun (z : ((List Int) × (List (Int × Int)))) => (D.tup [(D.lst false ((z.1).map fun (z : Int) => (D.int z))), (D.lst false ((z.2).map fun (z : (Int × Int)) => (D.tup [(D.int z.1), (D.int z.2)])))]))) (D.lst false ((x443).map fun (z : ((List Int) × (List (Int × Int)))) => (D.tup [(D.lst false ((z.1).map fun (z : Int) => (D.int z))), (D.lst false ((z.2).map fun (z : (Int × Int)) => (D.tup [(D.int z.1), (D.int z.2)])))]))))))) (ve_var (fz_L (fz_z zf_T))) (ve_sortedD (w := (N.bind (lcN (fun (p441 : ((List Int) × (List (Int × Int)))) => (N.ok true)) (fun (p441 : ((List Int) × (List (Int × Int)))) => (N.ok (p441.1, p441.2))) found') fun x442 => (sortN (fun (z : ((List Int) × (List (Int × Int)))) => (D.tup [(D.lst false ((z.1).map fun (z : Int) => (D.int z))), (D.lst false ((z.2).map fun (z : (Int × Int)) => (D.tup [(D.int z.1), (D.int z.2)])))])) x442))) (va_one (ve_lc (w := (lcN (fun (p441 : ((List Int) × (List (Int × Int)))) => (N.ok true)) (fun (p441 : ((List Int) × (List (Int × Int)))) => (N.ok (p441.1, p441.2))) found')) (GI := [.val eCn script', .val eI size', .val eI wide', .val (eLi false (eLi false (eTu (eCons eI (eOne eI))))) boxes', .any, .val (eLi false (eTu (eCons (eLi false eI) (eOne (eLi false (eTu (eCons eI (eOne eI)))))))) found', .any, .val (eLi false eI) s417, .any, .any, .any, .any, .any, .val (eLi false eI) s434, .val eI cut', .val (eLi false (eTu (eCons (eLi false eI) (eOne (eLi false (eTu (eCons eI (eOne eI)))))))) again', .any, .val (eLi false (eTu (eCons (eLi false eI) (eOne (eLi false (eTu (eCons eI (eOne eI)))))))) turned']) (vi_l (ve_varF zf_L) (fz_z zf_L)) (vg_t (vgs_cons vg_n (vgs_one vg_n)) (len_cons len_one)) ent_id (fun (p441 : ((List Int) × (List (Int × Int)))) => vt_true) (fun (p441 : ((List Int) × (List (Int × Int)))) => (ve_tup (va_cons (u := N.ok (p441.1, p441.2)) (ve_varF zf_L) (va_one (ve_varF zf_L))) (fzl_cons (fz_z zf_L) (fzl_one (fz_z zf_L))) (len_cons len_one))) (fun (p441 : ((List Int) × (List (Int × Int)))) => ent_id) (fun (p441 : ((List Int) × (List (Int × Int)))) => ent_id))) (fz_L (fz_z zf_T)) (fx_T (fxl_cons (fx_L fx_I) (fxl_one (fx_L (fx_T (fxl_cons fx_I (fxl_one fx_I)))))))) (o_eq (fn_L (fn_T (fnl_cons (fn_L fn_I) (fnl_one (fn_L (fn_T (fnl_cons fn_I (fnl_one fn_I)))))))) (fn_L (fn_T (fnl_cons (fn_L fn_I) (fnl_one (fn_L (fn_T (fnl_cons fn_I (fnl_one fn_I))))))))) zf_B nx_gb2) (fun a => a) (fun a d τ h s => h))))))))))))))))))))))))))))))

end
namespace Q
/-! ### loops that end early -/
theorem forN_allL {α ρ κ : Type} {b : α → Unit → NS Unit Unit ρ} {q : α → Bool} {r : ρ} : ∀ {xs : List α}, (∀ x ∈ xs, b x () = if q x = true then .nx () else .rt r) → (forN b xs () : NS Unit κ ρ) = if xs.all q = true then .nx () else .rt r
  | [], _ => rfl
  | x :: xs, h => by
    have h0 := h x List.mem_cons_self
    cases e : q x with
    | true =>
      rw [e, if_pos rfl] at h0
      rw [forN_nx h0, forN_allL fun y hy => h y (List.mem_cons_of_mem _ hy), List.all_cons, e, Bool.true_and]
    | false =>
      rw [e, if_neg (by decide)] at h0
      rw [forN_rt h0, List.all_cons, e, Bool.false_and, if_neg (by decide)]
theorem all_range {n : Nat} {q : Int → Bool} : (((List.range n).map fun k : Nat => (k : Int)).all q) = (List.range n).all fun k => q (k : Int) := by
  rw [List.all_map]; rfl
/-! ### cells, boxes -/
theorem cell_n (ns : List Int) (k : Nat) : ∃ i, n__law_cell_at ns (k : Int) = .ok i := by
  unfold n__law_cell_at
  by_cases h : k < ns.length
  · rw [if_pos (by simp only [decide_eq_true_eq]; omega), N.ix_lt h, N.s_ok]
    exact ⟨_, rfl⟩
  · rw [if_neg (by simp only [decide_eq_true_eq]; omega)]
    exact ⟨_, rfl⟩
theorem mix_n (c : Int) (k : Int) (h0 : 0 ≤ k) (h1 : k ≤ 1000) : ∃ i, n__law_mix c k = .ok i ∧ 0 ≤ i := by
  unfold n__law_mix
  rw [N.mul_l (by decide), N.bind_ok, N.bind_ok, N.mul_r (by omega), N.bind_ok, N.mul_r (by decide), N.bind_ok, N.mul_l (by omega), N.bind_ok, N.mul_r (by decide), N.bind_ok, N.bind_ok, N.mod_ok (by decide), N.s_ok]
  exact ⟨_, rfl, Int.emod_nonneg _ (by decide)⟩
inductive Two {α β : Type} (P : α → β → Prop) : List α → List β → Prop
  | nil : Two P [] []
  | cons {x : α} {y : β} {xs : List α} {ys : List β} : P x y → Two P xs ys → Two P (x :: xs) (y :: ys)
theorem Two.len {α β : Type} {P : α → β → Prop} : ∀ {xs : List α} {ys : List β}, Two P xs ys → ys.length = xs.length
  | _, _, .nil => rfl
  | _, _, .cons _ t => congrArg (· + 1) t.len
theorem Two.right {α β : Type} {P : α → β → Prop} : ∀ {xs : List α} {ys : List β}, Two P xs ys → ∀ y ∈ ys, ∃ x ∈ xs, P x y
  | _, _, .nil, y, h => by simp at h
  | _, _, .cons p t, y, h => by
    rcases List.mem_cons.mp h with rfl | h
    · exact ⟨_, List.mem_cons_self, p⟩
    · obtain ⟨x, hx, q⟩ := t.right y h
      exact ⟨x, List.mem_cons_of_mem _ hx, q⟩
theorem forN_app {α β ρ κ : Type} {b : α → List β → NS (List β) (List β) ρ} {P : α → β → Prop} : ∀ {xs : List α} {s : List β}, (∀ x ∈ xs, ∀ s, s.length < 1000000 → ∃ y, b x s = .nx (s ++ [y]) ∧ P x y) → s.length + xs.length ≤ 1000000 → ∃ ys, (forN b xs s : NS (List β) κ ρ) = .nx (s ++ ys) ∧ Two P xs ys
  | [], s, _, _ => ⟨[], by rw [List.append_nil]; rfl, .nil⟩
  | x :: xs, s, h, l => by
    rw [List.length_cons] at l
    obtain ⟨y, e, p⟩ := h x List.mem_cons_self s (by omega)
    obtain ⟨ys, e2, t⟩ := forN_app (κ := κ) (s := s ++ [y]) (fun z hz => h z (List.mem_cons_of_mem _ hz)) (by rw [List.length_append, List.length_cons, List.length_nil]; omega)
    exact ⟨y :: ys, by rw [forN_nx e, e2, List.append_assoc]; rfl, .cons p t⟩
theorem lcN_two {α β : Type} {f : α → N β} {P : α → β → Prop} {xs : List α} (hl : xs.length ≤ 1000000) (h : ∀ x ∈ xs, ∃ y, f x = .ok y ∧ P x y) : ∃ ys, lcN (fun _ => .ok true) f xs = .ok ys ∧ Two P xs ys := by
  unfold lcN
  rw [if_pos hl]
  clear hl
  induction xs with
  | nil => exact ⟨[], rfl, .nil⟩
  | cons x xs ih =>
    obtain ⟨y, e, p⟩ := h x List.mem_cons_self
    obtain ⟨ys, e2, t⟩ := ih fun z hz => h z (List.mem_cons_of_mem _ hz)
    refine ⟨y :: ys, ?_, .cons p t⟩
    unfold lcR
    rw [e, e2]
theorem box_n (c : Int) (m : Nat) (w : Int) (hw : 0 < w) (hm : m ≤ 100) : ∃ b, n__law_box c (m : Int) w = .ok b ∧ I.BxOk m b := by
  unfold n__law_box
  rw [N.range_ok (by omega), N.s_ok]
  obtain ⟨ys, e, t⟩ := forN_app (κ := Unit) (ρ := List (Int × Int)) (b := fun (k' : Int) (s39 : (List (Int × Int))) =>
    N.s (N.bind (n__law_mix c k') fun x46 => (N.mod x46 w)) fun low'1 =>
    N.s (N.bind (N.bind (N.bind (n__law_mix c (k' + 10)) fun x47 => (N.mod x47 5)) fun x48 => N.ok (low'1 + x48)) fun x49 => N.ok (low'1, x49)) fun x51 => if (s39).length < 1000000 then
    NS.nx (s39 ++ [x51])
      else NS.bad) (P := fun _ p => p.1 ≤ p.2) (xs := (List.range m).map fun k : Nat => (k : Int)) (s := []) (fun x hx s hs => by
      obtain ⟨k, hk, rfl⟩ := List.mem_map.mp hx
      have hk := List.mem_range.mp hk
      obtain ⟨i, e1, _⟩ := mix_n c (k : Int) (by omega) (by omega)
      obtain ⟨j, e2, _⟩ := mix_n c ((k : Int) + 10) (by omega) (by omega)
      have : 0 ≤ j % 5 := Int.emod_nonneg _ (by decide)
      refine ⟨(i % w, i % w + j % 5), ?_, by show i % w ≤ i % w + j % 5; omega⟩
      rw [e1, N.bind_ok, N.mod_ok hw, N.s_ok, e2, N.bind_ok, N.mod_ok (by decide), N.bind_ok, N.bind_ok, N.s_ok, if_pos hs]) (by rw [List.length_map, List.length_range, List.length_nil]; omega)
  have hl := t.len
  rw [List.length_map, List.length_range] at hl
  refine ⟨ys, ?_, hl, fun k hk => ?_⟩
  · rw [e]; rfl
  · have hm : I.ptN ys k ∈ ys := by
      unfold I.ptN
      rw [List.getD_eq_getElem?_getD, List.getElem?_eq_getElem (by omega)]
      exact List.getElem_mem _
    obtain ⟨_, _, q⟩ := t.right _ hm
    exact q
/-! ### touching -/
theorem touR_all (a b : List (Int × Int)) : ∀ (r j : Nat), I.touR a b j r = (List.range r).all fun k => I.ovW (I.ptN a (j + k)) (I.ptN b (j + k))
  | 0, _ => rfl
  | r + 1, j => by
    rw [List.range_succ_eq_map, List.all_cons, List.all_map]
    show (I.ovW (I.ptN a j) (I.ptN b j) && I.touR a b (j + 1) r) = _
    rw [touR_all a b r (j + 1)]
    congr 2
    funext k
    show _ = I.ovW (I.ptN a (j + (k + 1))) (I.ptN b (j + (k + 1)))
    rw [show j + 1 + k = j + (k + 1) by omega]
theorem ix_pt {l : List (Int × Int)} {k : Nat} (h : k < l.length) : N.ix l (k : Int) = .ok (I.ptN l k) := by
  rw [N.ix_lt h]
  unfold I.ptN
  rw [List.getD_eq_getElem?_getD, List.getElem?_eq_getElem h]; rfl
theorem touch_n {m : Nat} {a b : List (Int × Int)} (ha : I.BxOk m a) (hb : I.BxOk m b) (hm : m ≤ 100) : n__law_touch a b = .ok (I.touB a b) := by
  unfold n__law_touch
  have la := ha.l
  have lb := hb.l
  rw [N.range_ok (by omega), N.s_ok, forN_allL (q := fun x : Int => I.ovW (I.ptN a x.toNat) (I.ptN b x.toNat)) (r := false) (fun x hx => by
    obtain ⟨k, hk, rfl⟩ := List.mem_map.mp hx
    have hk := List.mem_range.mp hk
    rw [ix_pt hk, ix_pt (by omega : k < b.length)]
    simp only [N.bind_ok, N.s_ok, N.or, Int.toNat_natCast]
    unfold I.ovW
    by_cases c1 : (I.ptN a k).2 < (I.ptN b k).1
    · have c3 : ¬ (I.ptN b k).1 ≤ (I.ptN a k).2 := by omega
      simp only [c1, c3, decide_true, decide_false, if_true, N.s_ok, Bool.false_and, Bool.false_eq_true, if_false]
    · have c3 : (I.ptN b k).1 ≤ (I.ptN a k).2 := by omega
      by_cases c2 : (I.ptN b k).2 < (I.ptN a k).1
      · have c4 : ¬ (I.ptN a k).1 ≤ (I.ptN b k).2 := by omega
        simp only [c1, c2, c3, c4, decide_true, decide_false, if_true, N.s_ok, Bool.true_and, Bool.false_eq_true, if_false]
      · have c4 : (I.ptN a k).1 ≤ (I.ptN b k).2 := by omega
        simp only [c1, c2, c3, c4, decide_true, decide_false, if_true, N.s_ok, Bool.true_and, Bool.false_eq_true, if_false])]
  rw [all_range]
  unfold I.touB
  rw [touR_all]
  simp only [Int.toNat_natCast, Nat.zero_add]
  split <;> rename_i h
  · rw [h]; rfl
  · rw [Bool.not_eq_true] at h; rw [h]; rfl
/-! ### within -/
def inB (m : Nat) (p : List Int) (b : List (Int × Int)) : Bool := (List.range m).all fun k => decide (3 * (I.ptN b k).1 ≤ p.getD k 0) && decide (p.getD k 0 ≤ 3 * (I.ptN b k).2)
theorem within_n {m : Nat} {p : List Int} {b : List (Int × Int)} (hp : p.length = m) (hb : b.length = m) (hm : m ≤ 100) : n__law_within p b = .ok (inB m p b) := by
  unfold n__law_within
  rw [hb, N.range_ok (by omega), N.s_ok, forN_allL (q := fun x : Int => decide (3 * (I.ptN b x.toNat).1 ≤ p.getD x.toNat 0) && decide (p.getD x.toNat 0 ≤ 3 * (I.ptN b x.toNat).2)) (r := false) (fun x hx => by
    obtain ⟨k, hk, rfl⟩ := List.mem_map.mp hx
    have hk := List.mem_range.mp hk
    have e : N.ix p (k : Int) = .ok (p.getD k 0) := by
      rw [N.ix_lt (by omega : k < p.length), List.getD_eq_getElem?_getD, List.getElem?_eq_getElem (by omega)]; rfl
    rw [ix_pt (by omega : k < b.length), e]
    simp only [N.bind_ok, N.s_ok, N.or, Int.toNat_natCast, N.mul_l (show (3 : Int).natAbs < 2 ^ 64 by decide)]
    by_cases c1 : p.getD k 0 < 3 * (I.ptN b k).1
    · have c3 : ¬ 3 * (I.ptN b k).1 ≤ p.getD k 0 := by omega
      simp only [c1, c3, decide_true, decide_false, if_true, N.s_ok, Bool.false_and, Bool.false_eq_true, if_false]
    · have c3 : 3 * (I.ptN b k).1 ≤ p.getD k 0 := by omega
      by_cases c2 : 3 * (I.ptN b k).2 < p.getD k 0
      · have c4 : ¬ p.getD k 0 ≤ 3 * (I.ptN b k).2 := by omega
        simp only [c1, c2, c3, c4, decide_true, decide_false, if_true, N.s_ok, Bool.true_and, Bool.false_eq_true, if_false]
      · have c4 : p.getD k 0 ≤ 3 * (I.ptN b k).2 := by omega
        simp only [c1, c2, c3, c4, decide_true, decide_false, if_true, N.s_ok, Bool.true_and, Bool.false_eq_true, if_false])]
  rw [all_range]
  unfold inB
  simp only [Int.toNat_natCast]
  split <;> rename_i h
  · rw [h]; rfl
  · rw [Bool.not_eq_true] at h; rw [h]; rfl
end Q
namespace Q
theorem al_map {α β : Type} {e : EP β} {f : α → β} {h : α → D} : ∀ {xs : List α}, (∀ x ∈ xs, e (f x) (h x)) → Al e (xs.map f) (xs.map h)
  | [], _ => .nil
  | x :: xs, k => .cons (k x List.mem_cons_self) (al_map fun y hy => k y (List.mem_cons_of_mem _ hy))
theorem islands_n {m : Nat} {Bs : List (List (Int × Int))} (h : I.BsOk m Bs.length Bs) : n_islands Bs = .ok ((I.leasts Bs Bs.length).map fun f => ((I.compW Bs f).map fun k : Nat => (k : Int), I.endsW m Bs (I.compW Bs f))) := by
  have c := I.islands_ok h
  unfold n_islands
  refine nOf_ok (ij_L (ij_T (ijl_cons (ij_L ij_I) (ijl_one (ij_L (ij_T (ijl_cons ij_I (ijl_one ij_I)))))))) c ⟨_, rfl, al_map fun f _ => ⟨_, rfl, _, _, rfl, ⟨_, rfl, al_map fun k _ => rfl⟩, _, rfl, ⟨_, rfl, ?_⟩⟩⟩
  have := al_map (e := eTu (eCons eI (eOne eI))) (f := id) (h := I.spD) (xs := I.endsW m Bs (I.compW Bs f)) fun p _ => ⟨_, rfl, _, _, rfl, rfl, _, rfl, rfl⟩
  rw [List.map_id] at this
  exact this
theorem sub_len : ∀ (r N : List Nat), r.Nodup → (∀ x ∈ r, x ∈ N) → r.length ≤ N.length
  | [], N, _, _ => Nat.zero_le _
  | x :: r, N, h, k => by
    obtain ⟨h1, h2⟩ := List.nodup_cons.mp h
    have hx := k x List.mem_cons_self
    have := sub_len r (N.erase x) h2 fun y hy => (List.mem_erase_of_ne (fun e : y = x => h1 (e ▸ hy))).mpr (k y (List.mem_cons_of_mem _ hy))
    rw [List.length_erase_of_mem hx] at this
    have : 0 < N.length := List.length_pos_of_mem hx
    rw [List.length_cons]; omega
theorem ints_ok (m : Bool) (l : List Int) : Bn.Ok 1 (.lst m (l.map fun z => D.int z)) := ok_lst fun d hd => by
  obtain ⟨z, _, rfl⟩ := List.mem_map.mp hd
  exact ok_int _
theorem ints_eq (m m' : Bool) (l : List Int) : N.gb (gEq (.lst m (l.map fun z => D.int z)) (.lst m' (l.map fun z => D.int z))) = .ok true := by
  rw [vEqX (ints_ok m l) (ints_ok m' l) rfl]; unfold N.gb; rfl
theorem ints_ne (m m' : Bool) (l : List Int) : N.gb (gNe (.lst m (l.map fun z => D.int z)) (.lst m' (l.map fun z => D.int z))) = .ok false := by
  rw [vNeX (ints_ok m l) (ints_ok m' l) rfl]; unfold N.gb; rfl
def iL (l : List Nat) : List Int := l.map fun k : Nat => (k : Int)
theorem nat_notin (v : Nat) (r : List Nat) (m : Bool) : N.gb (gIn true (.int (v : Int)) (.lst m ((iL r).map fun z => D.int z))) = .ok (!r.contains v) := by
  have : (iL r).map (fun z => D.int z) = r.map I.nI := by unfold iL; rw [List.map_map]; rfl
  rw [this, I.in_nats]; unfold N.gb; rfl
section
variable {m : Nat} {Bs : List (List (Int × Int))}
theorem ix_bx {i : Nat} (hi : i < Bs.length) : N.ix Bs (i : Int) = .ok (I.bx Bs i) := by
  rw [N.ix_lt hi]
  unfold I.bx
  rw [List.getD_eq_getElem?_getD, List.getElem?_eq_getElem hi]; rfl
theorem tt_n (h : I.BsOk m Bs.length Bs) {i j : Nat} (hi : i < Bs.length) (hj : j < Bs.length) : n__law_touch (I.bx Bs i) (I.bx Bs j) = .ok (I.TT Bs i j) := touch_n (h.b i hi) (h.b j hj) (by have := h.m4; omega)
theorem comp_mem {f k : Nat} : k ∈ I.compW Bs f ↔ k < Bs.length ∧ I.mk Bs k = f := by
  unfold I.compW
  rw [List.mem_filter, List.mem_range, beq_iff_eq]
/-- what is reached grows till it is all -/
theorem reach_more (h : I.BsOk m Bs.length Bs) {f x0 : Nat} {r : List Nat} (h0 : x0 ∈ r) (hx : x0 ∈ I.compW Bs f) (hr : ∀ k ∈ r, k ∈ I.compW Bs f) : (∀ k ∈ I.compW Bs f, k ∈ r) ∨ ∃ v ∈ I.compW Bs f, v ∉ r ∧ ∃ k ∈ r, I.TT Bs v k = true := by
  have L := I.lab_ok h
  by_cases q : ∃ v ∈ I.compW Bs f, v ∉ r ∧ ∃ k ∈ r, I.TT Bs v k = true
  · exact .inr q
  · refine .inl fun k hk => ?_
    obtain ⟨x1, x2⟩ := comp_mem.mp hx
    obtain ⟨k1, k2⟩ := comp_mem.mp hk
    have c := (L.conn (I.TT_symm h) x1 k1).mpr (x2.trans k2.symm)
    refine c.closed (P := fun x => x ∈ r) h0 fun a b ha la lb ht => ?_
    by_cases hb : b ∈ r
    · exact hb
    · refine absurd ⟨b, comp_mem.mpr ⟨lb, ?_⟩, hb, a, ha, I.TT_symm h a b la lb ht⟩ q
      have := L.t a b la lb ht
      rw [← this]; exact (comp_mem.mp (hr a ha)).2
structure Gd (N : List Nat) (x0 : Nat) (r : List Nat) : Prop where
  nd : r.Nodup
  m : x0 ∈ r
  s : ∀ k ∈ r, k ∈ N
theorem reach_turn (h : I.BsOk m Bs.length Bs) {f x0 v : Nat} {r : List Nat} (g : Gd (I.compW Bs f) x0 r) (hv : v ∈ I.compW Bs f) {κ : Type} : ∃ r', (N.s (N.and (N.gb (gIn true (D.int (v : Int)) (D.lst true ((iL r).map fun (z : Int) => (D.int z))))) (N.bind (lcN (fun (k'3 : Int) => (N.ok true)) (fun (k'3 : Int) => (N.bind (N.ix Bs (v : Int)) fun x164 => N.bind (N.ix Bs k'3) fun x165 => (n__law_touch x164 x165))) (iL r)) fun x168 => N.ok (List.any x168 id))) fun b169 => if b169 = true then
    if (iL r).length < 1000000 then (NS.nx (iL r ++ [(v : Int)]) : NS (List Int) κ Bool) else NS.bad
    else NS.nx (iL r)) = .nx (iL r') ∧ Gd (I.compW Bs f) x0 r' ∧ (∃ A, r' = r ++ A) ∧ ((∃ k ∈ r, I.TT Bs v k = true) → v ∈ r') := by
  have lr : r.length ≤ 63 := Nat.le_trans (sub_len _ _ g.nd g.s) (I.comp_len h f)
  have e : lcN (fun (k'3 : Int) => (N.ok true)) (fun (k'3 : Int) => (N.bind (N.ix Bs (v : Int)) fun x164 => N.bind (N.ix Bs k'3) fun x165 => (n__law_touch x164 x165))) (iL r) = .ok ((iL r).map fun k : Int => I.TT Bs v k.toNat) := by
    refine lcN_pure (by unfold iL; rw [List.length_map]; omega) fun x hx => ?_
    obtain ⟨k, hk, rfl⟩ := List.mem_map.mp hx
    rw [ix_bx (comp_mem.mp hv).1, N.bind_ok, ix_bx (comp_mem.mp (g.s k hk)).1, N.bind_ok, tt_n h (comp_mem.mp hv).1 (comp_mem.mp (g.s k hk)).1, Int.toNat_natCast]
  rw [nat_notin, e]
  have ea : ((iL r).map fun k : Int => I.TT Bs v k.toNat).any id = r.any fun k => I.TT Bs v k := by
    unfold iL
    rw [List.map_map, List.any_map]
    congr 1
  simp only [N.and, N.bind_ok, ea]
  by_cases c : v ∈ r
  · have : r.contains v = true := List.contains_iff_mem.mpr c
    rw [this]
    exact ⟨r, rfl, g, ⟨[], by rw [List.append_nil]⟩, fun _ => c⟩
  · have : r.contains v = false := by
      cases q : r.contains v with
      | false => rfl
      | true => exact absurd (List.contains_iff_mem.mp q) c
    rw [this]
    by_cases d : (r.any fun k => I.TT Bs v k) = true
    · rw [d]
      refine ⟨r ++ [v], ?_, ⟨?_, List.mem_append_left _ g.m, fun k hk => ?_⟩, ⟨[v], rfl⟩, fun _ => by simp⟩
      · simp only [Bool.not_false, if_true, N.s_ok]
        rw [if_pos (by unfold iL; rw [List.length_map]; omega)]
        unfold iL
        rw [List.map_append]; rfl
      · rw [List.nodup_append]
        exact ⟨g.nd, by simp, fun a ha b hb => by cases List.mem_singleton.mp hb; exact fun e => c (e ▸ ha)⟩
      · rcases List.mem_append.mp hk with q | q
        · exact g.s k q
        · cases List.mem_singleton.mp q; exact hv
    · rw [Bool.not_eq_true] at d
      rw [d]
      refine ⟨r, rfl, g, ⟨[], by rw [List.append_nil]⟩, fun ⟨k, hk, ht⟩ => ?_⟩
      rw [List.any_eq_true.mpr ⟨k, hk, ht⟩] at d
      cases d
theorem reached_n (h : I.BsOk m Bs.length Bs) {f : Nat} (hf : f ∈ I.leasts Bs Bs.length) : n__law_reached Bs (iL (I.compW Bs f)) = .ok true := by
  have L := I.lab_ok h
  obtain ⟨f1, f2⟩ := List.mem_filter.mp hf
  have f1 := List.mem_range.mp f1
  have f2 : I.mk Bs f = f := by simpa using f2
  have hfm : f ∈ I.compW Bs f := comp_mem.mpr ⟨f1, f2⟩
  obtain ⟨x0, rest, hN⟩ : ∃ x0 rest, I.compW Bs f = x0 :: rest := by
    cases e : I.compW Bs f with
    | nil => rw [e] at hfm; simp at hfm
    | cons a b => exact ⟨a, b, rfl⟩
  have hx0 : x0 ∈ I.compW Bs f := by rw [hN]; exact List.mem_cons_self
  unfold n__law_reached
  have e0 : N.ix (iL (I.compW Bs f)) 0 = .ok (x0 : Int) := by
    rw [hN]; exact N.ix_ok (k := 0) rfl
  rw [e0, N.bind_ok, N.s_ok, N.s_ok]
  obtain ⟨s, es, hs⟩ := forN_inv (κ := Unit) (ρ := Bool) (b := fun (turn' : Int) (s141 : (List Int)) =>
    N.s (N.ok (iL (I.compW Bs f))) fun x171 =>
    NS.s (forN (fun (number'1 : Int) (s157 : (List Int)) =>
    N.s (N.and (N.gb (gIn true (D.int number'1) (D.lst true ((s157).map fun (z : Int) => (D.int z))))) (N.bind (lcN (fun (k'3 : Int) => (N.ok true)) (fun (k'3 : Int) => (N.bind (N.ix Bs number'1) fun x164 => N.bind (N.ix Bs k'3) fun x165 => (n__law_touch x164 x165))) s157) fun x168 => N.ok (List.any x168 id))) fun b169 => if b169 = true then
    if (s157).length < 1000000 then
    NS.nx (s157 ++ [number'1])
      else NS.bad
    else
    NS.nx s157) x171 s141) fun s170 =>
    NS.nx s170) (fun pre s => ∃ r, s = iL r ∧ Gd (I.compW Bs f) x0 r ∧ (pre.length + 1 ≤ r.length ∨ ∀ k ∈ I.compW Bs f, k ∈ r)) (xs := iL (I.compW Bs f)) (pre := []) (s := [(x0 : Int)]) ⟨[x0], rfl, ⟨by simp, by simp, fun k hk => by cases List.mem_singleton.mp hk; exact hx0⟩, .inl (by simp)⟩ (by
      rintro pre x _ ⟨r, rfl, g, hl⟩ hx
      rw [N.s_ok]
      obtain ⟨s2, e2, r2, rfl, g2, ⟨A, rfl⟩, k2⟩ := forN_inv (κ := List Int) (ρ := Bool) (b := fun (number'1 : Int) (s157 : (List Int)) =>
        N.s (N.and (N.gb (gIn true (D.int number'1) (D.lst true ((s157).map fun (z : Int) => (D.int z))))) (N.bind (lcN (fun (k'3 : Int) => (N.ok true)) (fun (k'3 : Int) => (N.bind (N.ix Bs number'1) fun x164 => N.bind (N.ix Bs k'3) fun x165 => (n__law_touch x164 x165))) s157) fun x168 => N.ok (List.any x168 id))) fun b169 => if b169 = true then
        if (s157).length < 1000000 then
        NS.nx (s157 ++ [number'1])
          else NS.bad
        else
        NS.nx s157) (fun pre s => ∃ r', s = iL r' ∧ Gd (I.compW Bs f) x0 r' ∧ (∃ A, r' = r ++ A) ∧ ∀ v : Nat, (v : Int) ∈ pre → (∃ k ∈ r, I.TT Bs v k = true) → v ∈ r') (xs := iL (I.compW Bs f)) (pre := []) (s := iL r) ⟨r, rfl, g, ⟨[], by rw [List.append_nil]⟩, fun v hv => by simp at hv⟩ (by
          rintro pre x _ ⟨r', rfl, g', ⟨A, rfl⟩, k'⟩ hx
          obtain ⟨v, hv, rfl⟩ := List.mem_map.mp hx
          obtain ⟨r2, e2, g2, ⟨A2, rfl⟩, k2⟩ := reach_turn h g' hv (κ := List Int)
          refine ⟨_, .inl e2, _, rfl, g2, ⟨A ++ A2, by rw [List.append_assoc]⟩, fun w hw ⟨k, hk, ht⟩ => ?_⟩
          rcases List.mem_append.mp hw with q | q
          · exact List.mem_append_left _ (k' w q ⟨k, hk, ht⟩)
          · have : w = v := by have := List.mem_singleton.mp q; omega
            subst this
            exact k2 ⟨k, List.mem_append_left _ hk, ht⟩)
      refine ⟨iL (r ++ A), .inl (by rw [e2]; rfl), _, rfl, g2, ?_⟩
      rw [List.length_append, List.length_singleton, List.length_append]
      rcases hl with hl | hl
      · rcases reach_more h g.m hx0 g.s with q | ⟨v, hv, hvr, hk⟩
        · exact .inr fun k hk => List.mem_append_left _ (q k hk)
        · refine .inl ?_
          have hv2 := k2 v (by rw [List.nil_append]; exact List.mem_map.mpr ⟨v, hv, rfl⟩) hk
          rcases List.mem_append.mp hv2 with q | q
          · exact absurd q hvr
          · have := List.length_pos_of_mem q
            omega
      · exact .inr fun k hk => List.mem_append_left _ (hl k hk))
  rw [es]
  obtain ⟨r, rfl, g, hl⟩ := hs
  have hall : ∀ k ∈ I.compW Bs f, k ∈ r := by
    rcases hl with hl | hl
    · have := sub_len _ _ g.nd g.s
      rw [List.nil_append] at hl
      unfold iL at hl
      rw [List.length_map] at hl
      omega
    · exact hl
  have hsort : sortI (iL r) = iL (I.compW Bs f) := I.sort_nats g.nd fun k => ⟨fun q => by
    obtain ⟨a, b⟩ := comp_mem.mp (g.s k q); exact ⟨a, by simpa using b⟩, fun ⟨a, b⟩ => hall k (comp_mem.mpr ⟨a, by simpa using b⟩)⟩
  show (NS.s (NS.nx (iL r)) _).f = _
  rw [NS.s_nx, hsort, ints_eq, N.s_ok]; rfl
end
end Q
namespace Q
section
variable {m : Nat} {Bs : List (List (Int × Int))}
def isN (m : Nat) (Bs : List (List (Int × Int))) (f : Nat) : List Int × List (Int × Int) := (iL (I.compW Bs f), I.endsW m Bs (I.compW Bs f))
theorem all_true {α : Type} (xs : List α) : (xs.all fun _ => true) = true := by
  rw [List.all_eq_true]; exact fun _ _ => rfl
theorem together_n (h : I.BsOk m Bs.length Bs) : n__law_together Bs ((I.leasts Bs Bs.length).map (isN m Bs)) = .ok true := by
  have L := I.lab_ok h
  unfold n__law_together
  rw [N.s_ok, forN_allL (q := fun _ => true) (r := false) (fun x hx => by
    obtain ⟨f, hf, rfl⟩ := List.mem_map.mp hx
    rw [show (isN m Bs f).1 = iL (I.compW Bs f) from rfl, reached_n h hf]
    simp only [N.not, N.bind_ok, Bool.not_true, N.s_ok, Bool.false_eq_true, if_false]
    rw [forN_allL (q := fun _ => true) (r := false) (fun y hy => by
      obtain ⟨v, hv, rfl⟩ := List.mem_map.mp hy
      rw [N.range_ok (by have := h.n63; omega), N.s_ok, forN_allL (q := fun _ => true) (r := false) (fun z hz => by
        obtain ⟨k, hk, rfl⟩ := List.mem_map.mp hz
        have hk := List.mem_range.mp hk
        rw [nat_notin, ix_bx (comp_mem.mp hv).1, N.bind_ok, ix_bx hk, N.bind_ok, tt_n h (comp_mem.mp hv).1 hk]
        simp only [N.and, N.bind_ok]
        by_cases c : k ∈ I.compW Bs f
        · rw [List.contains_iff_mem.mpr c]; rfl
        · have ht : I.TT Bs v k = false := by
            cases q : I.TT Bs v k with
            | false => rfl
            | true => exact absurd (comp_mem.mpr ⟨hk, by rw [← L.t v k (comp_mem.mp hv).1 hk q]; exact (comp_mem.mp hv).2⟩) c
          rw [ht]
          cases (I.compW Bs f).contains k <;> rfl), all_true]
      rfl), all_true]
    rfl), all_true]
  rfl
/-! ### all numbers together -/
theorem every_n (xs : List (List Int × List (Int × Int))) : ∀ (s : List Int), s.length + (xs.map fun p => p.1.length).sum ≤ 1000000 → (forN (fun (p415 : ((List Int) × (List (Int × Int)))) (s416 : (List Int)) =>
    N.s (N.cat s416 p415.1) fun every'1 =>
    NS.nx every'1) xs s : NS (List Int) Unit Bool) = .nx (s ++ (xs.map (·.1)).flatten) := by
  induction xs with
  | nil => intro s _; rw [List.map_nil, List.flatten_nil, List.append_nil]; rfl
  | cons x xs ih =>
    intro s hs
    rw [List.map_cons, List.sum_cons] at hs
    have e : N.cat s x.1 = .ok (s ++ x.1) := by unfold N.cat; exact if_pos (by omega)
    rw [forN_nx (s' := s ++ x.1) (by rw [e]; rfl), ih _ (by rw [List.length_append]; omega), List.map_cons, List.flatten_cons, List.append_assoc]
theorem flat_mem {k : Nat} (h : I.BsOk m Bs.length Bs) : k ∈ ((I.leasts Bs Bs.length).map (I.compW Bs)).flatten ↔ k < Bs.length := by
  have L := I.lab_ok h
  rw [List.mem_flatten]
  constructor
  · rintro ⟨l, hl, hk⟩
    obtain ⟨f, _, rfl⟩ := List.mem_map.mp hl
    exact (comp_mem.mp hk).1
  · intro hk
    obtain ⟨l1, l2⟩ := L.le k hk
    exact ⟨_, List.mem_map.mpr ⟨I.mk Bs k, List.mem_filter.mpr ⟨List.mem_range.mpr (by omega), by simpa using l2⟩, rfl⟩, comp_mem.mpr ⟨hk, rfl⟩⟩
theorem flat_nodup (Bs : List (List (Int × Int))) (n : Nat) : ((I.leasts Bs n).map (I.compW Bs)).flatten.Nodup := by
  show List.Pairwise _ _
  rw [List.pairwise_flatten]
  refine ⟨fun l hl => ?_, ?_⟩
  · obtain ⟨f, _, rfl⟩ := List.mem_map.mp hl
    exact List.Pairwise.filter _ List.nodup_range
  · rw [List.pairwise_map]
    have nd : (I.leasts Bs n).Pairwise (· ≠ ·) := List.Pairwise.filter _ List.nodup_range
    refine nd.imp fun {a b} hab x hx y hy e => hab ?_
    rw [← (comp_mem.mp hx).2, ← (comp_mem.mp hy).2, e]
theorem iL_flat (ls : List (List Nat)) : (ls.map iL).flatten = iL ls.flatten := by
  induction ls with
  | nil => rfl
  | cons l ls ih =>
    rw [List.map_cons, List.flatten_cons, ih, List.flatten_cons]
    unfold iL
    rw [List.map_append]
theorem every_sort (h : I.BsOk m Bs.length Bs) : sortI (iL ((I.leasts Bs Bs.length).map (I.compW Bs)).flatten) = iL (List.range Bs.length) := by
  have := I.sort_nats (flat_nodup Bs Bs.length) (n := Bs.length) (P := fun _ => true) fun k => ⟨fun q => ⟨(flat_mem h).mp q, rfl⟩, fun q => (flat_mem h).mpr q.1⟩
  unfold iL
  rw [this, List.filter_eq_self.mpr fun _ _ => rfl]
/-! ### points -/
theorem third_n (p : Int × Int) (c : Int) (hp : p.1 ≤ p.2) : ∃ t, n__law_third p c = .ok t ∧ 3 * p.1 ≤ t ∧ t ≤ 3 * p.2 := by
  unfold n__law_third
  have h0 : 0 ≤ c % 4 := Int.emod_nonneg _ (by decide)
  have h1 : c % 4 < 4 := Int.emod_lt_of_pos _ (by decide)
  rw [N.mul_l (by decide), N.bind_ok, N.mod_ok (by decide), N.bind_ok, N.mul_r (by omega), N.bind_ok, N.s_ok]
  refine ⟨_, rfl, ?_, ?_⟩
  · have := Int.mul_nonneg (show 0 ≤ p.2 - p.1 by omega) h0
    omega
  · have : (p.2 - p.1) * (c % 4) ≤ (p.2 - p.1) * 3 := Int.mul_le_mul_of_nonneg_left (by omega) (by omega)
    omega
structure PtIn (m : Nat) (p : List Int) (b : List (Int × Int)) : Prop where
  l : p.length = m
  i : inB m p b = true
theorem inB_iff {m : Nat} {p : List Int} {b : List (Int × Int)} : inB m p b = true ↔ ∀ k, k < m → 3 * (I.ptN b k).1 ≤ p.getD k 0 ∧ p.getD k 0 ≤ 3 * (I.ptN b k).2 := by
  unfold inB
  rw [List.all_eq_true]
  constructor
  · intro h k hk
    have := h k (List.mem_range.mpr hk)
    simpa using this
  · intro h k hk
    have := h k (List.mem_range.mp hk)
    simpa using this
theorem enumN_get {α : Type} : ∀ {xs : List α} {i k : Nat} {x : Int × α}, (enumN i xs)[k]? = some x → x.1 = ((i + k : Nat) : Int) ∧ xs[k]? = some x.2
  | [], i, k, x, h => by cases k <;> cases h
  | y :: ys, i, 0, x, h => by
    have h : ((i : Int), y) = x := by injection h
    subst h; exact ⟨rfl, rfl⟩
  | y :: ys, i, k + 1, x, h => by
    have := enumN_get (xs := ys) (i := i + 1) (k := k) h
    exact ⟨by rw [this.1]; congr 1; omega, this.2⟩
theorem enumN_len {α : Type} : ∀ (xs : List α) (i : Nat), (enumN i xs).length = xs.length
  | [], _ => rfl
  | _ :: xs, i => congrArg (· + 1) (enumN_len xs (i + 1))
theorem Two.get {α β : Type} {P : α → β → Prop} : ∀ {xs : List α} {ys : List β} {k : Nat} {y : β}, Two P xs ys → ys[k]? = some y → ∃ x, xs[k]? = some x ∧ P x y
  | _, _, k, y, .nil, h => by cases k <;> cases h
  | _, _, 0, y, .cons (x := x) p t, h => by
    refine ⟨x, rfl, ?_⟩
    have h := Option.some.inj h
    subst h; exact p
  | _, _, k + 1, y, .cons p t, h => t.get (k := k) h
theorem point_n (c : Int) {b : List (Int × Int)} (hb : I.BxOk m b) (hm : m ≤ 100) : ∃ p, lcN (fun (p425 : (Int × (Int × Int))) => (N.ok true)) (fun (p425 : (Int × (Int × Int))) => (N.bind (n__law_mix c (50 + p425.1)) fun x426 => (n__law_third p425.2 x426))) (enumN 0 b) = .ok p ∧ PtIn m p b := by
  have lb := hb.l
  obtain ⟨ys, e, t⟩ := lcN_two (P := fun (x : Int × (Int × Int)) t => 3 * x.2.1 ≤ t ∧ t ≤ 3 * x.2.2) (xs := enumN 0 b) (f := fun (p425 : (Int × (Int × Int))) => (N.bind (n__law_mix c (50 + p425.1)) fun x426 => (n__law_third p425.2 x426))) (by rw [enumN_len]; omega) (fun x hx => by
    obtain ⟨k, hk⟩ := List.mem_iff_getElem?.mp hx
    obtain ⟨h1, h2⟩ := enumN_get hk
    have hkl : k < b.length := (List.getElem?_eq_some_iff.mp h2).1
    obtain ⟨i, e1, _⟩ := mix_n c (50 + x.1) (by omega) (by omega)
    have ho := hb.o k (by omega)
    have e2 : I.ptN b k = x.2 := by
      unfold I.ptN
      rw [List.getD_eq_getElem?_getD, h2]; rfl
    rw [e2] at ho
    obtain ⟨t, e3, q⟩ := third_n x.2 i ho
    exact ⟨t, by rw [e1, N.bind_ok, e3], q⟩)
  have hl := t.len
  rw [enumN_len, lb] at hl
  refine ⟨ys, e, hl, inB_iff.mpr fun k hk => ?_⟩
  obtain ⟨x, hx, q⟩ := t.get (List.getElem?_eq_getElem (by omega : k < ys.length))
  obtain ⟨h1, h2⟩ := enumN_get hx
  have e2 : I.ptN b k = x.2 := by
    unfold I.ptN
    rw [List.getD_eq_getElem?_getD, h2]; rfl
  rw [e2, List.getD_eq_getElem?_getD, List.getElem?_eq_getElem (by omega : k < ys.length)]
  exact q
theorem in_touch (h : I.BsOk m Bs.length Bs) {i j : Nat} (hi : i < Bs.length) (hj : j < Bs.length) {p : List Int} (h1 : inB m p (I.bx Bs i) = true) (h2 : inB m p (I.bx Bs j) = true) : I.TT Bs i j = true := by
  unfold I.TT I.touB
  rw [touR_all, (h.b i hi).l, List.all_eq_true]
  intro k hk
  have hk := List.mem_range.mp hk
  rw [Nat.zero_add]
  have a := inB_iff.mp h1 k hk
  have b := inB_iff.mp h2 k hk
  unfold I.ovW
  simp only [Bool.and_eq_true, decide_eq_true_eq]
  omega
theorem in_hull (h : I.BsOk m Bs.length Bs) {N : List Nat} (hN : ∀ i ∈ N, i < Bs.length) {i : Nat} (hi : i ∈ N) {p : List Int} (hx : inB m p (I.bx Bs i) = true) : inB m p (I.endsW m Bs N) = true := by
  refine inB_iff.mpr fun k hk => ?_
  have e : I.ptN (I.endsW m Bs N) k = I.endK Bs k N := by
    unfold I.endsW
    exact I.ptN_map m _ hk
  rw [e]
  have a := inB_iff.mp hx k hk
  cases N with
  | nil => cases hi
  | cons j r =>
    have lo := minI_le (I.ptN (I.bx Bs j) k).1 (r.map fun j => (I.ptN (I.bx Bs j) k).1)
    have up := maxI_le (I.ptN (I.bx Bs j) k).2 (r.map fun j => (I.ptN (I.bx Bs j) k).2)
    have c1 : (I.endK Bs k (j :: r)).1 ≤ (I.ptN (I.bx Bs i) k).1 := by
      rcases List.mem_cons.mp hi with rfl | hi
      · exact lo.1
      · exact lo.2.1 _ (List.mem_map.mpr ⟨i, hi, rfl⟩)
    have c2 : (I.ptN (I.bx Bs i) k).2 ≤ (I.endK Bs k (j :: r)).2 := by
      rcases List.mem_cons.mp hi with rfl | hi
      · exact up.1
      · exact up.2.1 _ (List.mem_map.mpr ⟨i, hi, rfl⟩)
    exact ⟨by omega, by omega⟩
theorem ends_len (N : List Nat) : (I.endsW m Bs N).length = m := by unfold I.endsW; rw [List.length_map, List.length_range]
theorem pr_step (h : I.BsOk m Bs.length Bs) {i : Nat} (hi : i < Bs.length) {p : List Int} (hp : PtIn m p (I.bx Bs i)) {f : Nat} (hf : f ∈ I.leasts Bs Bs.length) (s : Int) {κ : Type} : (N.s (N.bind (lcN (fun (number'1 : Int) => (N.ok true)) (fun (number'1 : Int) => (N.bind (N.ix Bs number'1) fun x377 => (n__law_within p x377))) (isN m Bs f).1) fun x379 => N.ok (List.any x379 id)) fun b381 => if b381 = true then
    N.s (N.ok (s + 1)) fun many'1 =>
    N.s (N.not (n__law_within p (isN m Bs f).2)) fun b380 => if b380 = true then
    (NS.rt false : NS Int κ Bool)
    else
    NS.nx many'1
    else
    NS.nx s) = .nx (s + if f = I.mk Bs i then 1 else 0) := by
  have L := I.lab_ok h
  have m4 := h.m4
  have e : lcN (fun (number'1 : Int) => (N.ok true)) (fun (number'1 : Int) => (N.bind (N.ix Bs number'1) fun x377 => (n__law_within p x377))) (iL (I.compW Bs f)) = .ok ((iL (I.compW Bs f)).map fun k : Int => inB m p (I.bx Bs k.toNat)) := by
    refine lcN_pure (by unfold iL; rw [List.length_map]; have := I.comp_len h f; omega) fun x hx => ?_
    obtain ⟨k, hk, rfl⟩ := List.mem_map.mp hx
    have hk1 := (comp_mem.mp hk).1
    rw [ix_bx hk1, N.bind_ok, within_n hp.l (h.b k hk1).l (by omega), Int.toNat_natCast]
  have ea : ((iL (I.compW Bs f)).map fun k : Int => inB m p (I.bx Bs k.toNat)).any id = (I.compW Bs f).any fun k => inB m p (I.bx Bs k) := by
    unfold iL
    rw [List.map_map, List.any_map]
    congr 1
  rw [show (isN m Bs f).1 = iL (I.compW Bs f) from rfl, show (isN m Bs f).2 = I.endsW m Bs (I.compW Bs f) from rfl, e, N.bind_ok, ea, N.s_ok]
  by_cases c : f = I.mk Bs i
  · have hm : i ∈ I.compW Bs f := comp_mem.mpr ⟨hi, c.symm⟩
    rw [if_pos (List.any_eq_true.mpr ⟨i, hm, hp.i⟩), N.s_ok, within_n hp.l (ends_len _) (by omega), in_hull h (fun i hi => (comp_mem.mp hi).1) hm hp.i, if_pos c]
    rfl
  · have : ((I.compW Bs f).any fun k => inB m p (I.bx Bs k)) = false := by
      rw [List.any_eq_false]
      intro k hk q
      obtain ⟨k1, k2⟩ := comp_mem.mp hk
      exact c (by rw [← k2]; exact L.t k i k1 hi (in_touch h k1 hi q hp.i))
    rw [this, if_neg (by decide), if_neg c, Int.add_zero]
theorem pr_loop {α β : Type} {κ : Type} {b : α → Int → NS Int Int Bool} {G : β → α} {c : β → Int} : ∀ {xs : List β} (s : Int), (∀ x ∈ xs, ∀ s, b (G x) s = .nx (s + c x)) → (forN b (xs.map G) s : NS Int κ Bool) = .nx (s + (xs.map c).sum)
  | [], s, _ => by rw [List.map_nil, List.map_nil, List.sum_nil, Int.add_zero]; rfl
  | x :: xs, s, h => by
    rw [List.map_cons, forN_nx (h x List.mem_cons_self s), pr_loop _ fun y hy => h y (List.mem_cons_of_mem _ hy), List.map_cons, List.sum_cons, Int.add_assoc]
theorem one_sum (f0 : Nat) : ∀ {l : List Nat}, l.Nodup → f0 ∈ l → (l.map fun f => if f = f0 then (1 : Int) else 0).sum = 1
  | [], _, h => by simp at h
  | x :: l, nd, h => by
    obtain ⟨n1, n2⟩ := List.nodup_cons.mp nd
    rw [List.map_cons, List.sum_cons]
    rcases List.mem_cons.mp h with rfl | h
    · have : (l.map fun f => if f = f0 then (1 : Int) else 0).sum = 0 := by
        have key : ∀ {l : List Nat}, f0 ∉ l → (l.map fun f => if f = f0 then (1 : Int) else 0).sum = 0 := by
          intro l
          induction l with
          | nil => intro _; rfl
          | cons y l ih =>
            intro hy
            rw [List.map_cons, List.sum_cons, ih fun q => hy (List.mem_cons_of_mem _ q), if_neg fun e : y = f0 => hy (e ▸ List.mem_cons_self)]; rfl
        exact key n1
      rw [this, if_pos rfl]; rfl
    · rw [one_sum f0 n2 h, if_neg fun e : x = f0 => n1 (e ▸ h)]; rfl
theorem point_right_n (h : I.BsOk m Bs.length Bs) {i : Nat} (hi : i < Bs.length) {p : List Int} (hp : PtIn m p (I.bx Bs i)) : n__law_point_right p Bs ((I.leasts Bs Bs.length).map (isN m Bs)) = .ok true := by
  have L := I.lab_ok h
  obtain ⟨l1, l2⟩ := L.le i hi
  unfold n__law_point_right
  rw [N.s_ok, pr_loop (κ := Unit) (c := fun f => if f = I.mk Bs i then 1 else 0) 0 (fun f hf s => pr_step h hi hp hf s), one_sum (I.mk Bs i) (l := I.leasts Bs Bs.length) (List.Pairwise.filter _ List.nodup_range) (List.mem_filter.mpr ⟨List.mem_range.mpr (by omega), by simpa using l2⟩)]
  rfl
end
end Q
namespace Q
/-! ### what sorted makes of islands -/
abbrev Isl := List Int × List (Int × Int)
def fI (z : Isl) : D := (D.tup [(D.lst false ((z.1).map fun (z : Int) => (D.int z))), (D.lst false ((z.2).map fun (z : (Int × Int)) => (D.tup [(D.int z.1), (D.int z.2)])))])
theorem prs_ok (m : Bool) (l : List (Int × Int)) : Bn.Ok 2 (.lst m (l.map fun (z : (Int × Int)) => (D.tup [(D.int z.1), (D.int z.2)]))) := ok_lst fun d hd => by
  obtain ⟨z, _, rfl⟩ := List.mem_map.mp hd
  refine ok_tup fun d hd => ?_
  simp only [List.mem_cons, List.not_mem_nil, or_false] at hd
  rcases hd with rfl | rfl <;> exact ok_int _
theorem Ok.up {n : Nat} {d : D} (h : Bn.Ok n d) : Bn.Ok (n + 1) d := ⟨h.h, h.l, Nat.le_succ_of_le h.d⟩
theorem fI_ok (z : Isl) : Bn.Ok 3 (fI z) := ok_tup fun d hd => by
  simp only [List.mem_cons, List.not_mem_nil, or_false] at hd
  rcases hd with rfl | rfl
  · exact Ok.up (ints_ok _ _)
  · exact prs_ok _ _
theorem isls_ok (m : Bool) (l : List Isl) : Bn.Ok 4 (.lst m (l.map fI)) := ok_lst fun d hd => by
  obtain ⟨z, _, rfl⟩ := List.mem_map.mp hd
  exact fI_ok z
open PySem.W in
theorem alike_intsD : ∀ a b : List Int, alikeAll (toPs (a.map fun z => D.int z)) (toPs (b.map fun z => D.int z)) = true
  | [], b => by simp [toPs, alikeAll]
  | x :: a, [] => by simp [toPs, alikeAll]
  | x :: a, y :: b => by
    show (alike (.int x) (.int y) && alikeAll (toPs (a.map fun z => D.int z)) (toPs (b.map fun z => D.int z))) = true
    rw [alike_intsD a b]; simp [alike]
open PySem.W in
theorem alike_prsD : ∀ a b : List (Int × Int), alikeAll (toPs (a.map fun (z : (Int × Int)) => (D.tup [(D.int z.1), (D.int z.2)]))) (toPs (b.map fun (z : (Int × Int)) => (D.tup [(D.int z.1), (D.int z.2)]))) = true
  | [], b => by simp [toPs, alikeAll]
  | x :: a, [] => by simp [toPs, alikeAll]
  | x :: a, y :: b => by
    show (alike (.tuple [.int x.1, .int x.2]) (.tuple [.int y.1, .int y.2]) && alikeAll (toPs (a.map fun (z : (Int × Int)) => (D.tup [(D.int z.1), (D.int z.2)]))) (toPs (b.map fun (z : (Int × Int)) => (D.tup [(D.int z.1), (D.int z.2)])))) = true
    rw [alike_prsD a b]; simp [alike, alikeAll]
open PySem.W in
theorem alike_fI (x y : Isl) : alike (toP (fI x)) (toP (fI y)) = true := by
  show alike (.tuple [.list (toPs (x.1.map fun z => D.int z)), .list (toPs (x.2.map fun (z : (Int × Int)) => (D.tup [(D.int z.1), (D.int z.2)])))]) (.tuple [.list (toPs (y.1.map fun z => D.int z)), .list (toPs (y.2.map fun (z : (Int × Int)) => (D.tup [(D.int z.1), (D.int z.2)])))]) = true
  simp only [alike, alikeAll, alike_intsD, alike_prsD, Bool.and_self]
theorem eqv_intsD : ∀ a b : List Int, PySem.PyData.eqvAll (toPs (a.map fun z => D.int z)) (toPs (b.map fun z => D.int z)) = true → a = b
  | [], [], _ => rfl
  | [], y :: b, h => by simp [toPs, PySem.PyData.eqvAll] at h
  | x :: a, [], h => by simp [toPs, PySem.PyData.eqvAll] at h
  | x :: a, y :: b, h => by
    have h : (PySem.PyData.eqv (.int x) (.int y) && PySem.PyData.eqvAll (toPs (a.map fun z => D.int z)) (toPs (b.map fun z => D.int z))) = true := h
    rw [Bool.and_eq_true] at h
    have := eqv_intsD a b h.2
    have h1 : x = y := by have := h.1; simpa [PySem.PyData.eqv] using this
    rw [this, h1]
theorem eqv_prsD : ∀ a b : List (Int × Int), PySem.PyData.eqvAll (toPs (a.map fun (z : (Int × Int)) => (D.tup [(D.int z.1), (D.int z.2)]))) (toPs (b.map fun (z : (Int × Int)) => (D.tup [(D.int z.1), (D.int z.2)]))) = true → a = b
  | [], [], _ => rfl
  | [], y :: b, h => by simp [toPs, PySem.PyData.eqvAll] at h
  | x :: a, [], h => by simp [toPs, PySem.PyData.eqvAll] at h
  | x :: a, y :: b, h => by
    have h : (PySem.PyData.eqv (.tuple [.int x.1, .int x.2]) (.tuple [.int y.1, .int y.2]) && PySem.PyData.eqvAll (toPs (a.map fun (z : (Int × Int)) => (D.tup [(D.int z.1), (D.int z.2)]))) (toPs (b.map fun (z : (Int × Int)) => (D.tup [(D.int z.1), (D.int z.2)])))) = true := h
    rw [Bool.and_eq_true] at h
    have := eqv_prsD a b h.2
    have h1 : x.1 = y.1 ∧ x.2 = y.2 := by have := h.1; simpa [PySem.PyData.eqv, PySem.PyData.eqvAll] using this
    rw [this, show x = y from Prod.ext h1.1 h1.2]
theorem eqv_fI {x y : Isl} (h : PySem.PyData.eqv (toP (fI x)) (toP (fI y)) = true) : x = y := by
  have h : PySem.PyData.eqv (.tuple [.list (toPs (x.1.map fun z => D.int z)), .list (toPs (x.2.map fun (z : (Int × Int)) => (D.tup [(D.int z.1), (D.int z.2)])))]) (.tuple [.list (toPs (y.1.map fun z => D.int z)), .list (toPs (y.2.map fun (z : (Int × Int)) => (D.tup [(D.int z.1), (D.int z.2)])))]) = true := h
  simp only [PySem.PyData.eqv, PySem.PyData.eqvAll, Bool.and_eq_true] at h
  exact Prod.ext (eqv_intsD _ _ h.1) (eqv_prsD _ _ h.2.1)
open PySem.W in
theorem toks_fI {x y : Isl} (h : keyToks (toP (fI x)) = keyToks (toP (fI y))) : x = y := by
  cases e : PySem.PyData.eqv (toP (fI x)) (toP (fI y)) with
  | true => exact eqv_fI e
  | false =>
    have q := (toks_eqv _ _ (alike_fI x y)).2 e
    have q1 := q [] [.inl 0]
    have q2 := q [] []
    rw [h, lex_pre] at q1 q2
    rw [← q2] at q1
    exact absurd q1 (by simp [PyProof.Rows.lexLt])
def leI : Isl → Isl → Bool := fun a b => PySem.W.dataLe false toP (fI a) (fI b)
theorem leI_total : PySem.W.TotalLe leI := by
  have h := PySem.W.sortLe_total (PyProof.Rows.listOrd PyProof.Rows.itemOrd) false fun b : Isl => PySem.W.keyToks (toP (fI b))
  exact h
theorem leI_anti {a b : Isl} (h1 : leI a b = true) (h2 : leI b a = true) : a = b := by
  refine toks_fI ((PyProof.Rows.listOrd PyProof.Rows.itemOrd).total _ _ ?_ ?_)
  · have : (!(PyProof.Rows.listOrd PyProof.Rows.itemOrd).blt (PySem.W.keyToks (toP (fI a))) (PySem.W.keyToks (toP (fI b)))) = true := h2
    simpa using this
  · have : (!(PyProof.Rows.listOrd PyProof.Rows.itemOrd).blt (PySem.W.keyToks (toP (fI b))) (PySem.W.keyToks (toP (fI a)))) = true := h1
    simpa using this
theorem sorted_uniq {α : Type} {R : α → α → Prop} (anti : ∀ a b, R a b → R b a → a = b) : ∀ {a b : List α}, a.Perm b → a.Pairwise R → b.Pairwise R → a = b
  | [], b, h, _, _ => (List.Perm.nil_eq h)
  | x :: a, [], h, _, _ => absurd h.length_eq (by simp)
  | x :: a, y :: b, h, h1, h2 => by
    obtain ⟨p1, p2⟩ := List.pairwise_cons.mp h1
    obtain ⟨q1, q2⟩ := List.pairwise_cons.mp h2
    have e : x = y := by
      rcases List.mem_cons.mp (h.mem_iff.mp List.mem_cons_self) with e | e
      · exact e
      · rcases List.mem_cons.mp (h.mem_iff.mpr (List.mem_cons_self (a := y) (l := b))) with e' | e'
        · exact e'.symm
        · exact anti _ _ (p1 _ e') (q1 _ e)
    subst e
    rw [sorted_uniq anti (List.Perm.cons_inv h) p2 q2]
theorem sortI_n {xs : List Isl} : sortN fI xs = .ok (xs.mergeSort leI) := by
  unfold sortN
  refine if_pos ?_
  rw [Bool.and_eq_true, List.all_eq_true]
  refine ⟨fun d hd => ?_, ?_⟩
  · obtain ⟨z, _, rfl⟩ := List.mem_map.mp hd
    exact (fI_ok z).p
  · have key : ∀ d ∈ toPs (xs.map fI), ∃ z, d = toP (fI z) := fun d hd => by
      rw [toPs_map, List.map_map] at hd
      obtain ⟨z, _, rfl⟩ := List.mem_map.mp hd
      exact ⟨z, rfl⟩
    unfold sortOk
    rw [Bool.and_eq_true, Bool.and_eq_true, List.all_eq_true, Bool.or_eq_true, List.all_eq_true, List.all_eq_true]
    refine ⟨⟨fun d hd => List.all_eq_true.mpr fun d' hd' => ?_, .inl fun d hd => ?_⟩, List.all_eq_true.mpr fun d hd => ?_⟩
    · obtain ⟨x, rfl⟩ := key d hd
      obtain ⟨y, rfl⟩ := key d' hd'
      exact alike_fI x y
    · obtain ⟨x, rfl⟩ := key d hd
      rfl
    · obtain ⟨x, rfl⟩ := key d hd
      have := (fI_ok x).d
      exact decide_eq_true (by omega)
theorem sort_perm {xs ys : List Isl} (h : xs.Perm ys) : xs.mergeSort leI = ys.mergeSort leI :=
  sorted_uniq (R := fun a b => leI a b = true) (fun a b => leI_anti) (((List.mergeSort_perm xs leI).trans h).trans (List.mergeSort_perm ys leI).symm) (PySem.W.sort_pairwise leI_total xs) (PySem.W.sort_pairwise leI_total ys)
theorem perm_of {α : Type} [DecidableEq α] : ∀ {a b : List α}, a.Nodup → b.Nodup → (∀ x, x ∈ a ↔ x ∈ b) → a.Perm b
  | [], [], _, _, _ => .refl _
  | [], y :: b, _, _, h => absurd ((h y).mpr List.mem_cons_self) (by simp)
  | x :: a, b, h1, h2, h => by
    obtain ⟨n1, n2⟩ := List.nodup_cons.mp h1
    have hx := (h x).mp List.mem_cons_self
    have p := List.perm_cons_erase hx
    have nb := p.nodup_iff.mp h2
    obtain ⟨m1, m2⟩ := List.nodup_cons.mp nb
    refine (List.Perm.cons x (perm_of n2 m2 fun y => ⟨fun hy => ?_, fun hy => ?_⟩)).trans p.symm
    · exact (List.mem_erase_of_ne (fun e : y = x => n1 (e ▸ hy))).mpr ((h y).mp (List.mem_cons_of_mem _ hy))
    · rcases List.mem_cons.mp ((h y).mpr (List.mem_of_mem_erase hy)) with e | e
      · exact absurd (e ▸ hy) m1
      · exact e
end Q
namespace Q
section
variable {m : Nat} {Bs : List (List (Int × Int))} {o : List Nat}
structure Ord (n : Nat) (o : List Nat) : Prop where
  nd : o.Nodup
  m : ∀ k, k ∈ o ↔ k < n
  l : o.length = n
def at' (o : List Nat) (i : Nat) : Nat := o.getD i 0
theorem Ord.lt {n : Nat} (h : Ord n o) {i : Nat} (hi : i < n) : at' o i < n := by
  have := h.l
  refine (h.m _).mp ?_
  unfold at'
  rw [List.getD_eq_getElem?_getD, List.getElem?_eq_getElem (by omega)]
  exact List.getElem_mem _
theorem Ord.sur {n : Nat} (h : Ord n o) {k : Nat} (hk : k < n) : ∃ i, i < n ∧ at' o i = k := by
  obtain ⟨i, hi⟩ := List.mem_iff_getElem?.mp ((h.m k).mpr hk)
  have := (List.getElem?_eq_some_iff.mp hi).1
  refine ⟨i, by have := h.l; omega, ?_⟩
  unfold at'
  rw [List.getD_eq_getElem?_getD, hi]; rfl
theorem Ord.inj {n : Nat} (h : Ord n o) {i j : Nat} (hi : i < n) (hj : j < n) (e : at' o i = at' o j) : i = j := by
  have hl := h.l
  unfold at' at e
  rw [List.getD_eq_getElem?_getD, List.getElem?_eq_getElem (by omega), List.getD_eq_getElem?_getD, List.getElem?_eq_getElem (by omega)] at e
  have e : o[i] = o[j] := e
  have nd := List.pairwise_iff_getElem.mp h.nd
  rcases Nat.lt_trichotomy i j with q | q | q
  · exact absurd e (nd i j (by omega) (by omega) q)
  · exact q
  · exact absurd e.symm (nd j i (by omega) (by omega) q)
def turn (o : List Nat) (Bs : List (List (Int × Int))) : List (List (Int × Int)) := o.map (I.bx Bs)
theorem turn_bx (ho : Ord Bs.length o) {i : Nat} (hi : i < Bs.length) : I.bx (turn o Bs) i = I.bx Bs (at' o i) := by
  have := ho.l
  unfold turn
  rw [show I.bx (o.map (I.bx Bs)) i = (o.map (I.bx Bs)).getD i [] from rfl, List.getD_eq_getElem?_getD, List.getElem?_map]
  unfold at'
  rw [List.getD_eq_getElem?_getD, List.getElem?_eq_getElem (by omega)]; rfl
theorem turn_len (ho : Ord Bs.length o) : (turn o Bs).length = Bs.length := by unfold turn; rw [List.length_map]; exact ho.l
theorem turn_ok (h : I.BsOk m Bs.length Bs) (ho : Ord Bs.length o) : I.BsOk m (turn o Bs).length (turn o Bs) := by
  have l := turn_len ho
  refine ⟨rfl, by rw [l]; exact h.n63, h.m1, h.m4, fun i hi => ?_⟩
  rw [l] at hi
  rw [turn_bx ho hi]
  exact h.b _ (ho.lt hi)
theorem turn_tt (ho : Ord Bs.length o) {i j : Nat} (hi : i < Bs.length) (hj : j < Bs.length) : I.TT (turn o Bs) i j = I.TT Bs (at' o i) (at' o j) := by
  unfold I.TT
  rw [turn_bx ho hi, turn_bx ho hj]
theorem turn_mk (h : I.BsOk m Bs.length Bs) (ho : Ord Bs.length o) {i j : Nat} (hi : i < Bs.length) (hj : j < Bs.length) : I.mk (turn o Bs) i = I.mk (turn o Bs) j ↔ I.mk Bs (at' o i) = I.mk Bs (at' o j) := by
  have L := I.lab_ok h
  have h' := turn_ok h ho
  have L' := I.lab_ok h'
  have l := turn_len ho
  constructor
  · intro e
    have c := (L'.conn (I.TT_symm h') (by omega : i < (turn o Bs).length) (by omega : j < (turn o Bs).length)).mpr e
    refine (c.closed (P := fun x => I.mk Bs (at' o i) = I.mk Bs (at' o x)) rfl fun a b ha la lb ht => ?_)
    rw [l] at la lb
    rw [turn_tt ho la lb] at ht
    rw [ha]
    exact L.t _ _ (ho.lt la) (ho.lt lb) ht
  · intro e
    have c := (L.conn (I.TT_symm h) (ho.lt hi) (ho.lt hj)).mpr e
    have key := c.closed (P := fun y => ∀ b, b < Bs.length → at' o b = y → I.mk (turn o Bs) i = I.mk (turn o Bs) b) (fun b hb e => by rw [ho.inj hb hi e]) fun a b ha la lb ht b' hb' eb => by
      obtain ⟨a', la', ea⟩ := ho.sur la
      rw [ha a' la' ea]
      refine L'.t _ _ (by omega) (by omega) ?_
      rw [turn_tt ho la' hb', ea, eb]; exact ht
    exact key j hj rfl
theorem turn_comp (h : I.BsOk m Bs.length Bs) (ho : Ord Bs.length o) {f : Nat} (hf : f ∈ I.leasts (turn o Bs) (turn o Bs).length) (k : Nat) : k ∈ (I.compW (turn o Bs) f).map (at' o) ↔ k ∈ I.compW Bs (I.mk Bs (at' o f)) := by
  have l := turn_len ho
  obtain ⟨f1, f2⟩ := List.mem_filter.mp hf
  have f1 := List.mem_range.mp f1
  have f2 : I.mk (turn o Bs) f = f := by simpa using f2
  rw [l] at f1
  rw [comp_mem]
  constructor
  · intro hk
    obtain ⟨j, hj, rfl⟩ := List.mem_map.mp hk
    obtain ⟨j1, j2⟩ := comp_mem.mp hj
    rw [l] at j1
    exact ⟨ho.lt j1, (turn_mk h ho j1 f1).mp (j2.trans f2.symm)⟩
  · rintro ⟨k1, k2⟩
    obtain ⟨j, j1, rfl⟩ := ho.sur k1
    exact List.mem_map.mpr ⟨j, comp_mem.mpr ⟨by omega, ((turn_mk h ho j1 f1).mpr k2).trans f2⟩, rfl⟩
theorem turn_nodup (ho : Ord Bs.length o) (f : Nat) : ((I.compW (turn o Bs) f).map (at' o)).Nodup := by
  have l := turn_len ho
  have nd : (I.compW (turn o Bs) f).Nodup := List.Pairwise.filter _ List.nodup_range
  show List.Pairwise _ _
  rw [List.pairwise_map]
  refine List.Pairwise.imp_of_mem (fun {a b} ha hb hab e => hab ?_) nd
  have a1 := (comp_mem.mp ha).1
  have b1 := (comp_mem.mp hb).1
  exact ho.inj (by omega) (by omega) e
theorem turn_sort (h : I.BsOk m Bs.length Bs) (ho : Ord Bs.length o) {f : Nat} (hf : f ∈ I.leasts (turn o Bs) (turn o Bs).length) : sortI (iL ((I.compW (turn o Bs) f).map (at' o))) = iL (I.compW Bs (I.mk Bs (at' o f))) :=
  I.sort_nats (turn_nodup ho f) fun k => by rw [turn_comp h ho hf, comp_mem]; simp
theorem mins_eq {a b : Int} {as bs : List Int} (h : ∀ x, x ∈ a :: as ↔ x ∈ b :: bs) : minI a as = minI b bs := by
  obtain ⟨a1, a2, a3⟩ := minI_le a as
  obtain ⟨b1, b2, b3⟩ := minI_le b bs
  have ma : minI a as ∈ a :: as := by
    rcases a3 with e | e
    · rw [e]; exact List.mem_cons_self
    · exact List.mem_cons_of_mem _ e
  have mb : minI b bs ∈ b :: bs := by
    rcases b3 with e | e
    · rw [e]; exact List.mem_cons_self
    · exact List.mem_cons_of_mem _ e
  have q1 : minI b bs ≤ minI a as := by
    rcases List.mem_cons.mp ((h _).mp ma) with e | e
    · rw [e]; exact b1
    · exact b2 _ e
  have q2 : minI a as ≤ minI b bs := by
    rcases List.mem_cons.mp ((h _).mpr mb) with e | e
    · rw [e]; exact a1
    · exact a2 _ e
  omega
theorem maxs_eq {a b : Int} {as bs : List Int} (h : ∀ x, x ∈ a :: as ↔ x ∈ b :: bs) : maxI a as = maxI b bs := by
  obtain ⟨a1, a2, a3⟩ := maxI_le a as
  obtain ⟨b1, b2, b3⟩ := maxI_le b bs
  have ma : maxI a as ∈ a :: as := by
    rcases a3 with e | e
    · rw [e]; exact List.mem_cons_self
    · exact List.mem_cons_of_mem _ e
  have mb : maxI b bs ∈ b :: bs := by
    rcases b3 with e | e
    · rw [e]; exact List.mem_cons_self
    · exact List.mem_cons_of_mem _ e
  have q1 : maxI a as ≤ maxI b bs := by
    rcases List.mem_cons.mp ((h _).mp ma) with e | e
    · rw [e]; exact b1
    · exact b2 _ e
  have q2 : maxI b bs ≤ maxI a as := by
    rcases List.mem_cons.mp ((h _).mpr mb) with e | e
    · rw [e]; exact a1
    · exact a2 _ e
  omega
theorem endK_is (Bs : List (List (Int × Int))) (k : Nat) {A C : List Nat} (h : ∀ x, x ∈ A ↔ x ∈ C) : I.endK Bs k A = I.endK Bs k C := by
  cases A with
  | nil =>
    cases C with
    | nil => rfl
    | cons c C => exact absurd ((h c).mpr List.mem_cons_self) (by simp)
  | cons a A =>
    cases C with
    | nil => exact absurd ((h a).mp List.mem_cons_self) (by simp)
    | cons c C =>
      have key : ∀ (g : Nat → Int) x, x ∈ g a :: A.map g ↔ x ∈ g c :: C.map g := fun g x => by
        rw [← List.map_cons, ← List.map_cons, List.mem_map, List.mem_map]
        constructor
        · rintro ⟨y, hy, e⟩; exact ⟨y, (h y).mp hy, e⟩
        · rintro ⟨y, hy, e⟩; exact ⟨y, (h y).mpr hy, e⟩
      exact Prod.ext (mins_eq (key fun j => (I.ptN (I.bx Bs j) k).1)) (maxs_eq (key fun j => (I.ptN (I.bx Bs j) k).2))
theorem endK_turn (ho : Ord Bs.length o) (k : Nat) {A : List Nat} (h : ∀ x ∈ A, x < Bs.length) : I.endK (turn o Bs) k A = I.endK Bs k (A.map (at' o)) := by
  cases A with
  | nil => rfl
  | cons a A =>
    have e : ∀ x ∈ a :: A, I.ptN (I.bx (turn o Bs) x) k = I.ptN (I.bx Bs (at' o x)) k := fun x hx => by rw [turn_bx ho (h x hx)]
    show (minI (I.ptN (I.bx (turn o Bs) a) k).1 (A.map fun j => (I.ptN (I.bx (turn o Bs) j) k).1), maxI (I.ptN (I.bx (turn o Bs) a) k).2 (A.map fun j => (I.ptN (I.bx (turn o Bs) j) k).2)) = (minI (I.ptN (I.bx Bs (at' o a)) k).1 ((A.map (at' o)).map fun j => (I.ptN (I.bx Bs j) k).1), maxI (I.ptN (I.bx Bs (at' o a)) k).2 ((A.map (at' o)).map fun j => (I.ptN (I.bx Bs j) k).2))
    rw [e a List.mem_cons_self, List.map_map, List.map_map, List.map_congr_left (fun x hx => by rw [e x (List.mem_cons_of_mem _ hx)]; rfl : ∀ x ∈ A, (I.ptN (I.bx (turn o Bs) x) k).1 = ((fun j => (I.ptN (I.bx Bs j) k).1) ∘ at' o) x), List.map_congr_left (fun x hx => by rw [e x (List.mem_cons_of_mem _ hx)]; rfl : ∀ x ∈ A, (I.ptN (I.bx (turn o Bs) x) k).2 = ((fun j => (I.ptN (I.bx Bs j) k).2) ∘ at' o) x)]
theorem turn_ends (h : I.BsOk m Bs.length Bs) (ho : Ord Bs.length o) {f : Nat} (hf : f ∈ I.leasts (turn o Bs) (turn o Bs).length) : I.endsW m (turn o Bs) (I.compW (turn o Bs) f) = I.endsW m Bs (I.compW Bs (I.mk Bs (at' o f))) := by
  have l := turn_len ho
  unfold I.endsW
  refine List.map_congr_left fun k _ => ?_
  rw [endK_turn ho k fun x hx => by have := (comp_mem.mp hx).1; omega]
  exact endK_is Bs k (turn_comp h ho hf)
/-- the islands of the turned boxes, told by the old numbers -/
theorem turn_perm (h : I.BsOk m Bs.length Bs) (ho : Ord Bs.length o) : ((I.leasts (turn o Bs) (turn o Bs).length).map fun f => isN m Bs (I.mk Bs (at' o f))).Perm ((I.leasts Bs Bs.length).map (isN m Bs)) := by
  have L := I.lab_ok h
  have h' := turn_ok h ho
  have L' := I.lab_ok h'
  have l := turn_len ho
  have e : ((I.leasts (turn o Bs) (turn o Bs).length).map fun f => isN m Bs (I.mk Bs (at' o f))) = ((I.leasts (turn o Bs) (turn o Bs).length).map fun f => I.mk Bs (at' o f)).map (isN m Bs) := by rw [List.map_map]; rfl
  rw [e]
  refine List.Perm.map _ (perm_of ?_ (List.Pairwise.filter _ List.nodup_range) fun x => ?_)
  · have nd : (I.leasts (turn o Bs) (turn o Bs).length).Nodup := List.Pairwise.filter _ List.nodup_range
    show List.Pairwise _ _
    rw [List.pairwise_map]
    refine List.Pairwise.imp_of_mem (fun {a b} ha hb hab e => hab ?_) nd
    obtain ⟨a1, a2⟩ := List.mem_filter.mp ha
    obtain ⟨b1, b2⟩ := List.mem_filter.mp hb
    have a1 := List.mem_range.mp a1
    have b1 := List.mem_range.mp b1
    have a2 : I.mk (turn o Bs) a = a := by simpa using a2
    have b2 : I.mk (turn o Bs) b = b := by simpa using b2
    have := (turn_mk h ho (by omega) (by omega)).mpr e
    rw [a2, b2] at this
    exact this
  · rw [List.mem_map]
    constructor
    · rintro ⟨f, hf, rfl⟩
      have f1 := List.mem_range.mp (List.mem_filter.mp hf).1
      obtain ⟨l1, l2⟩ := L.le _ (ho.lt (by omega : f < Bs.length))
      have := ho.lt (by omega : f < Bs.length)
      exact List.mem_filter.mpr ⟨List.mem_range.mpr (by omega), by simpa using l2⟩
    · intro hx
      obtain ⟨x1, x2⟩ := List.mem_filter.mp hx
      have x1 := List.mem_range.mp x1
      have x2 : I.mk Bs x = x := by simpa using x2
      obtain ⟨b, hb, eb⟩ := ho.sur x1
      obtain ⟨l1, l2⟩ := L'.le b (by omega)
      refine ⟨I.mk (turn o Bs) b, List.mem_filter.mpr ⟨List.mem_range.mpr (by omega), by simpa using l2⟩, ?_⟩
      have := (turn_mk h ho (by omega : I.mk (turn o Bs) b < Bs.length) hb).mp l2
      rw [this, eb, x2]
end
end Q
namespace Q
theorem cutL_nat {α : Type} (xs : List α) (a b : Nat) : cutL xs (some (a : Int)) (some (b : Int)) = (xs.drop (min a xs.length)).take (min b xs.length - min a xs.length) := by
  unfold cutL
  rw [HT.sIx_nat, HT.sIx_nat]
theorem cut_len (ns : List Int) : (cutL ns (some 2) (some 18)).length ≤ 16 := by
  have := cutL_nat ns 2 18
  rw [show cutL ns (some 2) (some 18) = cutL ns (some ((2 : Nat) : Int)) (some ((18 : Nat) : Int)) from rfl, this, List.length_take, List.length_drop]
  omega
theorem cut_from {α : Type} (xs : List α) {c : Nat} (h : c ≤ xs.length) : cutL xs (some (c : Int)) none = xs.drop c := by
  unfold cutL
  rw [HT.sIx_nat, HT.sIx_none, Nat.min_eq_left h]
  exact List.take_of_length_le (by rw [List.length_drop]; omega)
theorem cut_to {α : Type} (xs : List α) {c : Nat} (h : c ≤ xs.length) : cutL xs none (some (c : Int)) = xs.take c := by
  unfold cutL
  rw [HT.sIx_nat, HT.sIx_none, Nat.min_eq_left h]; rfl
section
variable {m : Nat} {Bs : List (List (Int × Int))} {o : List Nat}
theorem ord_turn {n c : Nat} (hc : c ≤ n) : Ord n ((List.range n).drop c ++ (List.range n).take c) := by
  have p : ((List.range n).drop c ++ (List.range n).take c).Perm (List.range n) := by
    have := List.perm_append_comm (l₁ := (List.range n).drop c) (l₂ := (List.range n).take c)
    rw [List.take_append_drop] at this
    exact this
  exact ⟨p.nodup_iff.mpr List.nodup_range, fun k => p.mem_iff.trans List.mem_range, p.length_eq.trans List.length_range⟩
theorem ord_rev {n : Nat} (h : Ord n o) : Ord n o.reverse := by
  have p := List.reverse_perm o
  exact ⟨p.nodup_iff.mpr h.nd, fun k => p.mem_iff.trans (h.m k), p.length_eq.trans h.l⟩
theorem again_n (h : I.BsOk m Bs.length Bs) (ho : Ord Bs.length o) : lcN (fun (number' : Int) => (N.ok true)) (fun (number' : Int) => (N.ix Bs number')) (iL o) = .ok (turn o Bs) := by
  have e := lcN_pure (f := fun (number' : Int) => (N.ix Bs number')) (g := fun x : Int => I.bx Bs x.toNat) (xs := iL o) (by unfold iL; rw [List.length_map]; have := ho.l; have := h.n63; omega) fun x hx => by
    obtain ⟨k, hk, rfl⟩ := List.mem_map.mp hx
    rw [ix_bx ((ho.m k).mp hk), Int.toNat_natCast]
  rw [e]
  unfold iL turn
  rw [List.map_map]; rfl
theorem turned_n (h : I.BsOk m Bs.length Bs) (ho : Ord Bs.length o) : lcN (fun (p436 : ((List Int) × (List (Int × Int)))) => (N.ok true)) (fun (p436 : ((List Int) × (List (Int × Int)))) => (N.bind (N.bind (lcN (fun (k' : Int) => (N.ok true)) (fun (k' : Int) => (N.ix (iL o) k')) p436.1) fun x437 => N.ok (sortI x437)) fun x438 => N.ok (x438, p436.2))) ((I.leasts (turn o Bs) (turn o Bs).length).map (isN m (turn o Bs))) = .ok ((I.leasts (turn o Bs) (turn o Bs).length).map fun f => isN m Bs (I.mk Bs (at' o f))) := by
  have l := turn_len ho
  have n63 := h.n63
  have h' := turn_ok h ho
  have ol := ho.l
  have hl : (I.leasts (turn o Bs) (turn o Bs).length).length ≤ 63 := by
    have := List.length_filter_le (fun k => I.mk (turn o Bs) k == k) (List.range (turn o Bs).length)
    rw [List.length_range] at this
    unfold I.leasts; omega
  obtain ⟨ys, e, t⟩ := lcN_two (f := fun (p436 : ((List Int) × (List (Int × Int)))) => (N.bind (N.bind (lcN (fun (k' : Int) => (N.ok true)) (fun (k' : Int) => (N.ix (iL o) k')) p436.1) fun x437 => N.ok (sortI x437)) fun x438 => N.ok (x438, p436.2))) (P := fun x y => ∀ f ∈ I.leasts (turn o Bs) (turn o Bs).length, x = isN m (turn o Bs) f → y = isN m Bs (I.mk Bs (at' o f))) (xs := (I.leasts (turn o Bs) (turn o Bs).length).map (isN m (turn o Bs))) (by rw [List.length_map]; omega) (fun x hx => by
    obtain ⟨f, hf, rfl⟩ := List.mem_map.mp hx
    have e1 := lcN_pure (f := fun (k' : Int) => (N.ix (iL o) k')) (g := fun k : Int => ((at' o k.toNat : Nat) : Int)) (xs := iL (I.compW (turn o Bs) f)) (by unfold iL; rw [List.length_map]; have := I.comp_len h' f; omega) fun x hx => by
      obtain ⟨k, hk, rfl⟩ := List.mem_map.mp hx
      have := (comp_mem.mp hk).1
      refine N.ix_ok ?_
      unfold iL at'
      rw [List.getElem?_map, Int.toNat_natCast, List.getD_eq_getElem?_getD, List.getElem?_eq_getElem (by omega)]; rfl
    have e2 : (iL (I.compW (turn o Bs) f)).map (fun k : Int => ((at' o k.toNat : Nat) : Int)) = iL ((I.compW (turn o Bs) f).map (at' o)) := by
      unfold iL
      rw [List.map_map, List.map_map]; rfl
    refine ⟨isN m Bs (I.mk Bs (at' o f)), ?_, fun f' hf' ef => ?_⟩
    · show N.bind (N.bind (lcN _ _ (iL (I.compW (turn o Bs) f))) _) _ = _
      rw [e1, e2, N.bind_ok, turn_sort h ho hf, N.bind_ok, show (isN m (turn o Bs) f).2 = I.endsW m (turn o Bs) (I.compW (turn o Bs) f) from rfl, turn_ends h ho hf]
      rfl
    · have ec : iL (I.compW (turn o Bs) f) = iL (I.compW (turn o Bs) f') := congrArg Prod.fst ef
      have f1 := List.mem_filter.mp hf
      have hm : (f : Int) ∈ iL (I.compW (turn o Bs) f') := by
        rw [← ec]
        exact List.mem_map.mpr ⟨f, comp_mem.mpr ⟨List.mem_range.mp f1.1, by simpa using f1.2⟩, rfl⟩
      obtain ⟨g, hg, eg⟩ := List.mem_map.mp hm
      have : g = f := by omega
      subst this
      have f2 : I.mk (turn o Bs) g = g := by simpa using f1.2
      have := (comp_mem.mp hg).2
      rw [f2] at this
      rw [this])
  rw [e]
  congr 1
  refine List.ext_getElem? fun i => ?_
  cases ey : ys[i]? with
  | some y =>
    obtain ⟨x, hx, q⟩ := t.get ey
    rw [List.getElem?_map] at hx ⊢
    cases ef : (I.leasts (turn o Bs) (turn o Bs).length)[i]? with
    | none => rw [ef] at hx; cases hx
    | some f =>
      rw [ef] at hx
      have hx : isN m (turn o Bs) f = x := Option.some.inj hx
      rw [q f (List.mem_of_getElem? ef) hx.symm]; rfl
  | none =>
    have hl := t.len
    rw [List.length_map] at hl
    have := List.getElem?_eq_none_iff.mp ey
    rw [List.getElem?_map, List.getElem?_eq_none (by omega)]; rfl
theorem lc_id {α : Type} {f : α → N α} {xs : List α} (hl : xs.length ≤ 1000000) (h : ∀ x, f x = .ok x) : lcN (fun _ => N.ok true) f xs = .ok xs := by
  rw [lcN_pure (g := fun x => x) hl fun x _ => h x, List.map_id']
theorem lrange_n {n : Nat} (h : n ≤ 1000000) : N.lrange (n : Int) = .ok (iL (List.range n)) := by
  unfold N.lrange
  rw [if_pos (by omega), Int.toNat_natCast]; rfl
theorem cat_n (a b : List Nat) (h : a.length + b.length ≤ 1000000) : N.cat (iL a) (iL b) = .ok (iL (a ++ b)) := by
  unfold N.cat
  rw [if_pos (by unfold iL; rw [List.length_map, List.length_map]; exact h)]
  unfold iL
  rw [List.map_append]
theorem n_law_ok (ns : List Int) : n_law ns = .ok true := by
  obtain ⟨c0, e0⟩ := cell_n ns 0
  obtain ⟨c1, e1⟩ := cell_n ns 1
  have e0 : n__law_cell_at ns 0 = .ok c0 := e0
  have e1 : n__law_cell_at ns 1 = .ok c1 := e1
  have r0 : 0 ≤ c0 % 3 := Int.emod_nonneg _ (by decide)
  have r1 : c0 % 3 < 3 := Int.emod_lt_of_pos _ (by decide)
  obtain ⟨m, hm⟩ : ∃ m : Nat, 1 + c0 % 3 = (m : Int) := ⟨(1 + c0 % 3).toNat, by omega⟩
  have q0 : 0 ≤ c0 / 3 % 4 := Int.emod_nonneg _ (by decide)
  have q1 : c0 / 3 % 4 < 4 := Int.emod_lt_of_pos _ (by decide)
  obtain ⟨w, ew, hw⟩ : ∃ w : Int, N.ix [10, 14, 22, 40] (c0 / 3 % 4) = .ok w ∧ 0 < w := by
    obtain ⟨j, hj⟩ : ∃ j : Nat, c0 / 3 % 4 = (j : Int) := ⟨(c0 / 3 % 4).toNat, by omega⟩
    rw [hj]
    have : j < 4 := by omega
    rcases (by omega : j = 0 ∨ j = 1 ∨ j = 2 ∨ j = 3) with rfl | rfl | rfl | rfl <;> exact ⟨_, N.ix_ok rfl, by decide⟩
  have hl := cut_len ns
  obtain ⟨C, hC⟩ : ∃ C, cutL ns (some 2) (some 18) = C := ⟨_, rfl⟩
  rw [hC] at hl
  obtain ⟨Bs, eb, tb⟩ := lcN_two (f := fun (cell' : Int) => (n__law_box cell' (m : Int) w)) (P := fun _ b => I.BxOk m b) (xs := C) (by omega) fun x _ => box_n x m w hw (by omega)
  have lB := tb.len
  have hB : I.BsOk m Bs.length Bs := ⟨rfl, by omega, by omega, by omega, fun i hi => by
    have hm : I.bx Bs i ∈ Bs := by
      unfold I.bx
      rw [List.getD_eq_getElem?_getD, List.getElem?_eq_getElem hi]
      exact List.getElem_mem _
    exact (tb.right _ hm).elim fun _ h => h.2⟩
  have ef : n_islands Bs = .ok ((I.leasts Bs Bs.length).map (isN m Bs)) := islands_n hB
  obtain ⟨F, hF⟩ : ∃ F, (I.leasts Bs Bs.length).map (isN m Bs) = F := ⟨_, rfl⟩
  have lF : F.length ≤ 63 := by
    have := List.length_filter_le (fun k => I.mk Bs k == k) (List.range Bs.length)
    rw [List.length_range] at this
    rw [← hF, List.length_map]; unfold I.leasts; omega
  have eev : (F.map (·.1)).flatten = iL ((I.leasts Bs Bs.length).map (I.compW Bs)).flatten := by
    rw [← hF, List.map_map, ← iL_flat, List.map_map]; rfl
  have hsum : (F.map fun p => p.1.length).sum ≤ 1000000 := by
    rw [← hF, List.map_map]
    have key : ∀ L : List Nat, (L.map ((fun p : List Int × List (Int × Int) => p.1.length) ∘ isN m Bs)).sum ≤ 63 * L.length := by
      intro L
      induction L with
      | nil => exact Nat.le_refl _
      | cons x L ih =>
        rw [List.map_cons, List.sum_cons, List.length_cons]
        have : ((fun p : List Int × List (Int × Int) => p.1.length) ∘ isN m Bs) x ≤ 63 := by
          show (iL (I.compW Bs x)).length ≤ 63
          unfold iL; rw [List.length_map]; exact I.comp_len hB x
        omega
    have := key (I.leasts Bs Bs.length)
    rw [← hF, List.length_map] at lF
    omega
  have et := together_n hB
  rw [hF] at et
  unfold n_law
  rw [e0, N.bind_ok, N.mod_ok (by decide), N.bind_ok, N.s_ok, hm, N.bind_ok, N.div_ok (b := 3) (by decide) (by decide), N.bind_ok, N.mod_ok (by decide), N.bind_ok, ew, N.s_ok, hC, eb, N.s_ok, lc_id (by omega) (fun _ => rfl), N.bind_ok, ef, hF, N.s_ok, N.s_ok, every_n F [] (by simpa using hsum), NS.s_nx, List.nil_append, eev, every_sort hB, lrange_n (by omega), N.bind_ok, ints_ne, et]
  simp only [N.or, N.not, N.bind_ok, Bool.not_true, Bool.false_eq_true, if_false, N.s_ok]
  rw [forN_allL (q := fun _ => true) (r := false) (fun x hx => by
    have hx2 : x.2 ∈ Bs := (List.of_mem_zip (a := x.1) (b := x.2) hx).2
    obtain ⟨i, hi⟩ := List.mem_iff_getElem?.mp hx2
    have hi1 := (List.getElem?_eq_some_iff.mp hi).1
    have eb : I.bx Bs i = x.2 := by
      unfold I.bx
      rw [List.getD_eq_getElem?_getD, hi]; rfl
    obtain ⟨p, ep, hp⟩ := point_n (m := m) x.1 (eb ▸ hB.b i hi1) (by omega)
    rw [ep, N.s_ok]
    have := point_right_n hB hi1 (p := p) (by rw [eb]; exact hp)
    rw [hF] at this
    rw [this]
    rfl), all_true, if_pos rfl, NS.s_nx]
  rw [e1, N.bind_ok, N.div_ok (b := 2) (by decide) (by decide), N.bind_ok, N.mod_ok (by omega), N.s_ok]
  obtain ⟨c, hc⟩ : ∃ c : Nat, c1 / 2 % ((Bs.length : Int) + 1) = (c : Int) := ⟨(c1 / 2 % ((Bs.length : Int) + 1)).toNat, by have := Int.emod_nonneg (c1 / 2) (by omega : ((Bs.length : Int) + 1) ≠ 0); omega⟩
  have hcl : c ≤ Bs.length := by have := Int.emod_lt_of_pos (c1 / 2) (by omega : 0 < (Bs.length : Int) + 1); omega
  have ll : (iL (List.range Bs.length)).length = Bs.length := by unfold iL; rw [List.length_map, List.length_range]
  rw [hc, cut_from _ (by omega), cut_to _ (by omega)]
  have ed : (iL (List.range Bs.length)).drop c = iL ((List.range Bs.length).drop c) := by unfold iL; rw [List.map_drop]
  have etk : (iL (List.range Bs.length)).take c = iL ((List.range Bs.length).take c) := by unfold iL; rw [List.map_take]
  rw [ed, etk, cat_n _ _ (by rw [List.length_drop, List.length_take, List.length_range]; omega), N.s_ok, N.bind_ok, N.mod_ok (by decide), N.bind_ok, N.s_ok]
  obtain ⟨o, ho, eo⟩ : ∃ o, Ord Bs.length o ∧ (if (decide (c1 % 2 = 1)) = true then (NS.nx (iL ((List.range Bs.length).drop c ++ (List.range Bs.length).take c)).reverse : NS (List Int) Unit Bool) else .nx (iL ((List.range Bs.length).drop c ++ (List.range Bs.length).take c))) = .nx (iL o) := by
    by_cases z : c1 % 2 = 1
    · refine ⟨_, ord_rev (ord_turn hcl), ?_⟩
      rw [if_pos (decide_eq_true z)]
      unfold iL
      rw [List.map_reverse]
    · exact ⟨_, ord_turn hcl, if_neg (by simpa using z)⟩
  rw [eo, NS.s_nx, again_n hB ho, N.bind_ok]
  have ea : n_islands (turn o Bs) = .ok ((I.leasts (turn o Bs) (turn o Bs).length).map (isN m (turn o Bs))) := islands_n (turn_ok hB ho)
  rw [ea, N.s_ok, turned_n hB ho, N.bind_ok]
  have es : ∀ xs : List Isl, sortN (fun (z : ((List Int) × (List (Int × Int)))) => (D.tup [(D.lst false ((z.1).map fun (z : Int) => (D.int z))), (D.lst false ((z.2).map fun (z : (Int × Int)) => (D.tup [(D.int z.1), (D.int z.2)])))])) xs = .ok (xs.mergeSort leI) := fun xs => sortI_n
  rw [es, N.s_ok, lc_id (by omega) (fun _ => rfl), N.bind_ok, es, N.bind_ok, sort_perm (turn_perm hB ho), hF]
  have eq : N.gb (gEq (D.lst false ((F.mergeSort leI).map fI)) (D.lst false ((F.mergeSort leI).map fI))) = .ok true := by
    rw [vEqX (isls_ok false (F.mergeSort leI)) (isls_ok false (F.mergeSort leI)) rfl]
    unfold N.gb
    rfl
  exact (congrArg (fun z : N Bool => (N.s z fun x444 => (NS.rt x444 : NS Unit Unit Bool)).f) eq).trans rfl
end
end Q
theorem law_true (sc : List Int) (h : sc.length ≤ 63) : f_law [.cst (sc.map D.int)] = .ok (.bl true) := by
  obtain ⟨d, e, q⟩ := vf_law.ok (a := sc) (ds := [.cst (sc.map D.int)]) ⟨_, rfl, rfl⟩ (Q.n_law_ok sc)
  rw [e]
  cases (show d = .bl true from q)
  rfl

end Lw

namespace Lw
open PySem PySem.Spec PyProof.Rows L2 Bn
/-! ### what the top has written -/
structure Tx (K : PySem.W.Frag) (mg : Str → Option Value) (ca : Str → Addr) : Prop where
  any_ : mg "any" = none
  enumerate : mg "enumerate" = none
  len_ : mg "len" = none
  list_ : mg "list" = none
  max_ : mg "max" = none
  min_ : mg "min" = none
  range : mg "range" = none
  reversed : mg "reversed" = none
  sorted : mg "sorted" = none
  zip : mg "zip" = none
section
variable {P : Program} {w : World} {K : PySem.W.Frag} {mg : Str → Option Value} {base : Heap} {ca : Str → Addr}
theorem ok_common (T : Tx K mg ca)  {f : Addr} {fd : FuncData} (F : Fun K "common" "common" s_common f fd) : FnOk P w K mg base (L2.CX P w) 1 f fd ["a", "b"] (spP K ca f_common) :=
  fn_ok F sc_common fun cdv A outer s H E F0 R hr c => (s_cons (s_set (i := 2) sc_common.nd rfl (.inl rfl) (e_z (z_callB (call_max2 c.calm) sMax2 (by rfl) T.max_ (by decide +kernel) (za_cons (z_ix ix_seq sIx (z_var (pv 0)) z_int) (za_cons (z_ix ix_seq sIx (z_var (pv 1)) z_int) za_nil)))))
    (s_cons (s_set (i := 3) sc_common.nd rfl (.inl rfl) (e_z (z_callB (call_min2 c.calm) sMin2 (by rfl) T.min_ (by decide +kernel) (za_cons (z_ix ix_seq sIx (z_var (pv 0)) z_int) (za_cons (z_ix ix_seq sIx (z_var (pv 1)) z_int) za_nil)))))
    (s_cons (s_if (t_cmpZ op_lt sLt (z_var (pv 3)) (z_var (pv 2))) (s_one (s_ret (e_z z_non))) s_nil)
    (s_one (s_ret (e_tup (a_cons (e_var (pv 2)) (a_cons (e_var (pv 3)) a_nil))))))))
theorem ok_touch (T : Tx K mg ca) (G_common : Fo P w K mg base ca 1 "common" f_common) {f : Addr} {fd : FuncData} (F : Fun K "touch" "touch" s_touch f fd) : FnOk P w K mg base (L2.CX P w) 2 f fd ["one", "other"] (spP K ca f_touch) :=
  fn_ok F sc_touch fun cdv A outer s H E F0 R hr c => (s_cons (s_for c (i_range1 (by rfl) T.range (a_cons (e_z (z_callB call_len sLen (by rfl) T.len_ (by decide +kernel) (za_cons (z_var (pv 0)) za_nil))) a_nil)) (g_name (i := 2) sc_touch.nd rfl (.inl rfl)) (s_one (s_if (t_cmpE op_isN sIsN (e_call c G_common hr (by rfl) (a_cons (e_z (z_ix ix_seq sIx (z_var (pv 0)) (z_var (pv 2)))) (a_cons (e_z (z_ix ix_seq sIx (z_var (pv 1)) (z_var (pv 2)))) a_nil))) (e_z z_non)) (s_one (s_ret (e_z z_bl))) s_nil)))
    (s_one (s_ret (e_z z_bl))))
theorem ok_grown_from (T : Tx K mg ca) (G_touch : Fo P w K mg base ca 2 "touch" f_touch) {f : Addr} {fd : FuncData} (F : Fun K "grown_from" "grown_from" s_grown_from f fd) : FnOk P w K mg base (L2.CX P w) 3 f fd ["boxes", "first"] (spP K ca f_grown_from) :=
  fn_ok F sc_grown_from fun cdv A outer s H E F0 R hr c => (s_cons (s_set (i := 2) sc_grown_from.nd rfl (.inl rfl) (e_lst (a_cons (e_var (pv 1)) a_nil)))
    (s_cons (s_set (i := 3) sc_grown_from.nd rfl (.inl rfl) (e_z z_int))
    (s_cons (s_while c fuel_grown_from1 (t_cmpZ op_lt sLt (z_var (pv 3)) (z_callB call_len sLen (by rfl) T.len_ (by decide +kernel) (za_cons (z_var (pv 2)) za_nil))) (s_cons (s_for c (i_range1 (by rfl) T.range (a_cons (e_z (z_callB call_len sLen (by rfl) T.len_ (by decide +kernel) (za_cons (z_var (pv 0)) za_nil))) a_nil)) (g_name (i := 4) sc_grown_from.nd rfl (.inl rfl)) (s_one (s_if (PW.pt (t_and (t_cmpZ op_notIn_seq sIn (z_var (pv 4)) (z_var (pv 2))) (t_and1 (t_valE (e_call c G_touch hr (by rfl) (a_cons (e_z (z_ix ix_seq sIx (z_var (pv 0)) (z_ix ix_seq sIx (z_var (pv 2)) (z_var (pv 3))))) (a_cons (e_z (z_ix ix_seq sIx (z_var (pv 0)) (z_var (pv 4)))) a_nil))))))) (s_one (s_app (pv 2) (e_var (pv 4)))) s_nil)))
    (s_one (s_set (i := 3) sc_grown_from.nd rfl (.inl rfl) (e_z (z_op op_add sAdd (z_var (pv 3)) z_int))))))
    (s_one (s_ret (e_sorted (by rfl) T.sorted (by decide +kernel) (a_cons (e_var (pv 2)) a_nil)))))))
theorem ok_hull (T : Tx K mg ca)  {f : Addr} {fd : FuncData} (F : Fun K "hull" "hull" s_hull f fd) : FnOk P w K mg base (L2.CX P w) 1 f fd ["a", "b"] (spP K ca f_hull) :=
  fn_ok F sc_hull fun cdv A outer s H E F0 R hr c => (s_one (s_ret (e_tup (a_cons (e_z (z_callB (call_min2 c.calm) sMin2 (by rfl) T.min_ (by decide +kernel) (za_cons (z_ix ix_seq sIx (z_var (pv 0)) z_int) (za_cons (z_ix ix_seq sIx (z_var (pv 1)) z_int) za_nil)))) (a_cons (e_z (z_callB (call_max2 c.calm) sMax2 (by rfl) T.max_ (by decide +kernel) (za_cons (z_ix ix_seq sIx (z_var (pv 0)) z_int) (za_cons (z_ix ix_seq sIx (z_var (pv 1)) z_int) za_nil)))) a_nil)))))
theorem ok_hull_of (T : Tx K mg ca) (G_hull : Fo P w K mg base ca 1 "hull" f_hull) {f : Addr} {fd : FuncData} (F : Fun K "hull_of" "hull_of" s_hull_of f fd) : FnOk P w K mg base (L2.CX P w) 2 f fd ["boxes", "numbers"] (spP K ca f_hull_of) :=
  fn_ok F sc_hull_of fun cdv A outer s H E F0 R hr c => (s_cons (s_set (i := 2) sc_hull_of.nd rfl (.inr rfl) (e_lstOf (by rfl) T.list_ (by decide +kernel) (a_cons (e_z (z_ix ix_seq sIx (z_var (pv 0)) (z_ix ix_seq sIx (z_var (pv 1)) z_int))) a_nil)))
    (s_cons (s_for c (i_list (e_var (pv 1))) (g_name (i := 3) sc_hull_of.nd rfl (.inr rfl)) (s_one (s_set (i := 2) sc_hull_of.nd rfl (.inr rfl) (e_lc (own := [("k", 4)]) c sc_hull_of.nd (i_range1 (by rfl) T.range (a_cons (e_z (z_callB call_len sLen (by rfl) T.len_ (by decide +kernel) (za_cons (z_var (pv 2)) za_nil))) a_nil)) (blkOk_by (own := [("k", 4)]) (N := ["boxes", "numbers", "spans", "number", "k"]) (sc := defScope s_hull_of) (by decide +kernel)) (fun _ _ _ _ _ => (g_name (i := 4) sc_hull_of.nd rfl (.inl rfl))) (fun _ _ _ _ _ => ts_nil) (fun _ _ _ _ _ c => (e_call c G_hull hr (by rfl) (a_cons (e_z (z_ix ix_seq sIx (z_var (pv 2)) (z_var (pv 4)))) (a_cons (e_z (z_ix ix_seq sIx (z_ix ix_seq sIx (z_var (pv 0)) (z_var (pv 3))) (z_var (pv 4)))) a_nil))))) (hs := sw_false rfl))))
    (s_one (s_ret (e_mv (pv 2))))))
theorem ok_islands (T : Tx K mg ca) (G_grown_from : Fo P w K mg base ca 3 "grown_from" f_grown_from) (G_hull_of : Fo P w K mg base ca 2 "hull_of" f_hull_of) {f : Addr} {fd : FuncData} (F : Fun K "islands" "islands" s_islands f fd) : FnOk P w K mg base (L2.CX P w) 4 f fd ["boxes"] (spP K ca f_islands) :=
  fn_ok F sc_islands fun cdv A outer s H E F0 R hr c => (s_cons (s_set (i := 1) sc_islands.nd rfl (.inl rfl) (e_lst a_nil))
    (s_cons (s_set (i := 2) sc_islands.nd rfl (.inl rfl) e_dct)
    (s_cons (s_for c (i_range1 (by rfl) T.range (a_cons (e_z (z_callB call_len sLen (by rfl) T.len_ (by decide +kernel) (za_cons (z_var (pv 0)) za_nil))) a_nil)) (g_name (i := 3) sc_islands.nd rfl (.inl rfl)) (s_cons (s_if (t_cmpZ (op_dIn (units65 hr)) sDIn (z_var (pv 3)) (z_var (pv 2))) (s_one s_continue) s_nil)
    (s_cons (s_set (i := 4) sc_islands.nd rfl (.inl rfl) (e_call c G_grown_from hr (by rfl) (a_cons (e_var (pv 0)) (a_cons (e_var (pv 3)) a_nil))))
    (s_cons (s_for c (i_list (e_var (pv 4))) (g_name (i := 5) sc_islands.nd rfl (.inl rfl)) (s_one (s_dput (units65 hr) (pv 2) (z_var (pv 5)) (e_z z_bl))))
    (s_one (s_app (pv 1) (e_tup (a_cons (e_var (pv 4)) (a_cons (e_call c G_hull_of hr (by rfl) (a_cons (e_var (pv 0)) (a_cons (e_var (pv 4)) a_nil))) a_nil)))))))))
    (s_one (s_ret (e_mv (pv 1)))))))
theorem ok__law_mix (T : Tx K mg ca)  {f : Addr} {fd : FuncData} (F : Fun K "_law_mix" "_law_mix" s__law_mix f fd) : FnOk P w K mg base (L2.CX P w) 1 f fd ["_law_cell", "_law_k"] (spP K ca f__law_mix) :=
  fn_ok F sc__law_mix fun cdv A outer s H E F0 R hr c => (s_one (s_ret (e_z (z_op op_mod sMod (z_op op_add sAdd (z_op op_mulA sMulA (z_op op_mulA sMulA (z_var (pv 0)) (z_op op_add sAdd (z_op op_mulA sMulA z_int (z_var (pv 1))) z_int)) z_int) (z_op op_mulA sMulA (z_op op_mulA sMulA (z_var (pv 1)) (z_var (pv 1))) z_int)) z_int))))
theorem ok__law_box (T : Tx K mg ca) (G__law_mix : Fo P w K mg base ca 1 "_law_mix" f__law_mix) {f : Addr} {fd : FuncData} (F : Fun K "_law_box" "_law_box" s__law_box f fd) : FnOk P w K mg base (L2.CX P w) 2 f fd ["_law_cell", "_law_size", "_law_wide"] (spP K ca f__law_box) :=
  fn_ok F sc__law_box fun cdv A outer s H E F0 R hr c => (s_cons (s_set (i := 3) sc__law_box.nd rfl (.inl rfl) (e_lst a_nil))
    (s_cons (s_for c (i_range1 (by rfl) T.range (a_cons (e_var (pv 1)) a_nil)) (g_name (i := 4) sc__law_box.nd rfl (.inl rfl)) (s_cons (s_set (i := 5) sc__law_box.nd rfl (.inl rfl) (e_op op_mod sMod (e_call c G__law_mix hr (by rfl) (a_cons (e_var (pv 0)) (a_cons (e_var (pv 4)) a_nil))) (e_var (pv 2))))
    (s_one (s_app (pv 3) (e_tup (a_cons (e_var (pv 5)) (a_cons (e_op op_add sAdd (e_var (pv 5)) (e_op op_mod sMod (e_call c G__law_mix hr (by rfl) (a_cons (e_var (pv 0)) (a_cons (e_z (z_op op_add sAdd (z_var (pv 4)) z_int)) a_nil))) (e_z z_int))) a_nil)))))))
    (s_one (s_ret (e_mv (pv 3))))))
theorem ok__law_cell_at (T : Tx K mg ca)  {f : Addr} {fd : FuncData} (F : Fun K "_law_cell_at" "_law_cell_at" s__law_cell_at f fd) : FnOk P w K mg base (L2.CX P w) 1 f fd ["_law_script", "_law_k"] (spP K ca f__law_cell_at) :=
  fn_ok F sc__law_cell_at fun cdv A outer s H E F0 R hr c => (s_cons (s_if (t_cmpZ op_lt sLt (z_var (pv 1)) (z_callB call_len sLen (by rfl) T.len_ (by decide +kernel) (za_cons (z_var (pv 0)) za_nil))) (s_one (s_ret (e_z (z_ix ix_seq sIx (z_var (pv 0)) (z_var (pv 1)))))) s_nil)
    (s_one (s_ret (e_z z_int))))
theorem ok__law_touch (T : Tx K mg ca)  {f : Addr} {fd : FuncData} (F : Fun K "_law_touch" "_law_touch" s__law_touch f fd) : FnOk P w K mg base (L2.CX P w) 1 f fd ["_law_one", "_law_other"] (spP K ca f__law_touch) :=
  fn_ok F sc__law_touch fun cdv A outer s H E F0 R hr c => (s_cons (s_for c (i_range1 (by rfl) T.range (a_cons (e_z (z_callB call_len sLen (by rfl) T.len_ (by decide +kernel) (za_cons (z_var (pv 0)) za_nil))) a_nil)) (g_name (i := 2) sc__law_touch.nd rfl (.inl rfl)) (s_one (s_if (PW.pt (t_or (t_cmpZ op_lt sLt (z_ix ix_seq sIx (z_ix ix_seq sIx (z_var (pv 0)) (z_var (pv 2))) z_int) (z_ix ix_seq sIx (z_ix ix_seq sIx (z_var (pv 1)) (z_var (pv 2))) z_int)) (t_or1 (t_cmpZ op_lt sLt (z_ix ix_seq sIx (z_ix ix_seq sIx (z_var (pv 1)) (z_var (pv 2))) z_int) (z_ix ix_seq sIx (z_ix ix_seq sIx (z_var (pv 0)) (z_var (pv 2))) z_int))))) (s_one (s_ret (e_z z_bl))) s_nil)))
    (s_one (s_ret (e_z z_bl))))
theorem ok__law_reached (T : Tx K mg ca) (G__law_touch : Fo P w K mg base ca 1 "_law_touch" f__law_touch) {f : Addr} {fd : FuncData} (F : Fun K "_law_reached" "_law_reached" s__law_reached f fd) : FnOk P w K mg base (L2.CX P w) 2 f fd ["_law_boxes", "_law_numbers"] (spP K ca f__law_reached) :=
  fn_ok F sc__law_reached fun cdv A outer s H E F0 R hr c => (s_cons (s_set (i := 2) sc__law_reached.nd rfl (.inl rfl) (e_lst (a_cons (e_z (z_ix ix_seq sIx (z_var (pv 1)) z_int)) a_nil)))
    (s_cons (s_for c (i_list (e_var (pv 1))) (g_name (i := 3) sc__law_reached.nd rfl (.inl rfl)) (s_one (s_for c (i_list (e_var (pv 1))) (g_name (i := 4) sc__law_reached.nd rfl (.inr rfl)) (s_one (s_if (PW.pt (t_and (t_cmpZ op_notIn_seq sIn (z_var (pv 4)) (z_var (pv 2))) (t_and1 (t_valE (e_callB (cr_any c.calm) sAny (by rfl) T.any_ (by decide +kernel) (a_cons (e_lcB (own := [("_law_k", 5)]) c sc__law_reached.nd (pv 2) (blkOk_by (own := [("_law_k", 5)]) (N := ["_law_boxes", "_law_numbers", "_law_reached_here", "_law_turn", "_law_number", "_law_k"]) (sc := defScope s__law_reached) (by decide +kernel)) (fun _ _ _ _ _ => (g_name (i := 5) sc__law_reached.nd rfl (.inl rfl))) (fun _ _ _ _ _ => ts_nil) (fun _ _ _ _ _ c => (e_call c G__law_touch hr (by rfl) (a_cons (e_z (z_ix ix_seq sIx (z_var (pv 0)) (z_var (pv 4)))) (a_cons (e_z (z_ix ix_seq sIx (z_var (pv 0)) (z_var (pv 5)))) a_nil))))) a_nil)))))) (s_one (s_app (pv 2) (e_var (pv 4)))) s_nil)))))
    (s_one (s_ret (e_cmp (op_eqD hr.units) sEq (e_sorted (by rfl) T.sorted (by decide +kernel) (a_cons (e_var (pv 2)) a_nil)) (e_var (pv 1)))))))
theorem ok__law_together (T : Tx K mg ca) (G__law_reached : Fo P w K mg base ca 2 "_law_reached" f__law_reached) (G__law_touch : Fo P w K mg base ca 1 "_law_touch" f__law_touch) {f : Addr} {fd : FuncData} (F : Fun K "_law_together" "_law_together" s__law_together f fd) : FnOk P w K mg base (L2.CX P w) 3 f fd ["_law_boxes", "_law_found"] (spP K ca f__law_together) :=
  fn_ok F sc__law_together fun cdv A outer s H E F0 R hr c => (s_cons (s_for c (i_list (e_var (pv 1))) (g_tup c.calm (gs_cons (g_name (i := 2) sc__law_together.nd rfl (.inl rfl)) (gs_cons (g_name (i := 3) sc__law_together.nd rfl (.inl rfl)) gs_nil))) (s_cons (s_if (t_not (t_valE (e_call c G__law_reached hr (by rfl) (a_cons (e_var (pv 0)) (a_cons (e_var (pv 2)) a_nil))))) (s_one (s_ret (e_z z_bl))) s_nil)
    (s_one (s_for c (i_list (e_var (pv 2))) (g_name (i := 4) sc__law_together.nd rfl (.inl rfl)) (s_one (s_for c (i_range1 (by rfl) T.range (a_cons (e_z (z_callB call_len sLen (by rfl) T.len_ (by decide +kernel) (za_cons (z_var (pv 0)) za_nil))) a_nil)) (g_name (i := 5) sc__law_together.nd rfl (.inl rfl)) (s_one (s_if (PW.pt (t_and (t_cmpZ op_notIn_seq sIn (z_var (pv 5)) (z_var (pv 2))) (t_and1 (t_valE (e_call c G__law_touch hr (by rfl) (a_cons (e_z (z_ix ix_seq sIx (z_var (pv 0)) (z_var (pv 4)))) (a_cons (e_z (z_ix ix_seq sIx (z_var (pv 0)) (z_var (pv 5)))) a_nil))))))) (s_one (s_ret (e_z z_bl))) s_nil))))))))
    (s_one (s_ret (e_z z_bl))))
theorem ok__law_third (T : Tx K mg ca)  {f : Addr} {fd : FuncData} (F : Fun K "_law_third" "_law_third" s__law_third f fd) : FnOk P w K mg base (L2.CX P w) 1 f fd ["_law_span", "_law_cell"] (spP K ca f__law_third) :=
  fn_ok F sc__law_third fun cdv A outer s H E F0 R hr c => (s_one (s_ret (e_z (z_op op_add sAdd (z_op op_mulA sMulA z_int (z_ix ix_seq sIx (z_var (pv 0)) z_int)) (z_op op_mulA sMulA (z_op op_sub sSub (z_ix ix_seq sIx (z_var (pv 0)) z_int) (z_ix ix_seq sIx (z_var (pv 0)) z_int)) (z_op op_mod sMod (z_var (pv 1)) z_int))))))
theorem ok__law_within (T : Tx K mg ca)  {f : Addr} {fd : FuncData} (F : Fun K "_law_within" "_law_within" s__law_within f fd) : FnOk P w K mg base (L2.CX P w) 1 f fd ["_law_point", "_law_box_here"] (spP K ca f__law_within) :=
  fn_ok F sc__law_within fun cdv A outer s H E F0 R hr c => (s_cons (s_for c (i_range1 (by rfl) T.range (a_cons (e_z (z_callB call_len sLen (by rfl) T.len_ (by decide +kernel) (za_cons (z_var (pv 1)) za_nil))) a_nil)) (g_name (i := 2) sc__law_within.nd rfl (.inl rfl)) (s_one (s_if (PW.pt (t_or (t_cmpZ op_lt sLt (z_ix ix_seq sIx (z_var (pv 0)) (z_var (pv 2))) (z_op op_mulA sMulA z_int (z_ix ix_seq sIx (z_ix ix_seq sIx (z_var (pv 1)) (z_var (pv 2))) z_int))) (t_or1 (t_cmpZ op_gt sGt (z_ix ix_seq sIx (z_var (pv 0)) (z_var (pv 2))) (z_op op_mulA sMulA z_int (z_ix ix_seq sIx (z_ix ix_seq sIx (z_var (pv 1)) (z_var (pv 2))) z_int)))))) (s_one (s_ret (e_z z_bl))) s_nil)))
    (s_one (s_ret (e_z z_bl))))
theorem ok__law_point_right (T : Tx K mg ca) (G__law_within : Fo P w K mg base ca 1 "_law_within" f__law_within) {f : Addr} {fd : FuncData} (F : Fun K "_law_point_right" "_law_point_right" s__law_point_right f fd) : FnOk P w K mg base (L2.CX P w) 2 f fd ["_law_point", "_law_boxes", "_law_found"] (spP K ca f__law_point_right) :=
  fn_ok F sc__law_point_right fun cdv A outer s H E F0 R hr c => (s_cons (s_set (i := 3) sc__law_point_right.nd rfl (.inl rfl) (e_z z_int))
    (s_cons (s_for c (i_list (e_var (pv 2))) (g_tup c.calm (gs_cons (g_name (i := 4) sc__law_point_right.nd rfl (.inl rfl)) (gs_cons (g_name (i := 5) sc__law_point_right.nd rfl (.inl rfl)) gs_nil))) (s_one (s_if (t_valE (e_callB (cr_any c.calm) sAny (by rfl) T.any_ (by decide +kernel) (a_cons (e_lc (own := [("_law_number", 6)]) c sc__law_point_right.nd (i_list (e_var (pv 4))) (blkOk_by (own := [("_law_number", 6)]) (N := ["_law_point", "_law_boxes", "_law_found", "_law_many", "_law_numbers", "_law_ends", "_law_number"]) (sc := defScope s__law_point_right) (by decide +kernel)) (fun _ _ _ _ _ => (g_name (i := 6) sc__law_point_right.nd rfl (.inl rfl))) (fun _ _ _ _ _ => ts_nil) (fun _ _ _ _ _ c => (e_call c G__law_within hr (by rfl) (a_cons (e_var (pv 0)) (a_cons (e_z (z_ix ix_seq sIx (z_var (pv 1)) (z_var (pv 6)))) a_nil))))) a_nil))) (s_cons (s_set (i := 3) sc__law_point_right.nd rfl (.inl rfl) (e_z (z_op op_add sAdd (z_var (pv 3)) z_int)))
    (s_one (s_if (t_not (t_valE (e_call c G__law_within hr (by rfl) (a_cons (e_var (pv 0)) (a_cons (e_var (pv 5)) a_nil))))) (s_one (s_ret (e_z z_bl))) s_nil))) s_nil)))
    (s_one (s_ret (e_z (z_cmp (op_eqD hr.units) sEq (z_var (pv 3)) z_int))))))
theorem ok_law (T : Tx K mg ca) (G_islands : Fo P w K mg base ca 4 "islands" f_islands) (G__law_box : Fo P w K mg base ca 2 "_law_box" f__law_box) (G__law_cell_at : Fo P w K mg base ca 1 "_law_cell_at" f__law_cell_at) (G__law_together : Fo P w K mg base ca 3 "_law_together" f__law_together) (G__law_third : Fo P w K mg base ca 1 "_law_third" f__law_third) (G__law_point_right : Fo P w K mg base ca 2 "_law_point_right" f__law_point_right) (G__law_mix : Fo P w K mg base ca 1 "_law_mix" f__law_mix) {f : Addr} {fd : FuncData} (F : Fun K "law" "law" s_law f fd) : FnOk P w K mg base (L2.CX P w) 5 f fd ["_law_script"] (spP K ca f_law) :=
  fn_ok F sc_law fun cdv A outer s H E F0 R hr c => (s_cons (s_set (i := 1) sc_law.nd rfl (.inr rfl) (e_op op_add sAdd (e_z z_int) (e_op op_mod sMod (e_call c G__law_cell_at hr (by rfl) (a_cons (e_var (pv 0)) (a_cons (e_z z_int) a_nil))) (e_z z_int))))
    (s_cons (s_set (i := 2) sc_law.nd rfl (.inr rfl) (e_ix ix_seq sIx (e_lst (a_cons (e_z z_int) (a_cons (e_z z_int) (a_cons (e_z z_int) (a_cons (e_z z_int) a_nil))))) (e_op op_mod sMod (e_op op_fdivW sDiv (e_call c G__law_cell_at hr (by rfl) (a_cons (e_var (pv 0)) (a_cons (e_z z_int) a_nil))) (e_z z_int)) (e_z z_int))))
    (s_cons (s_set (i := 3) sc_law.nd rfl (.inr rfl) (e_lc (own := [("_law_cell", 4)]) c sc_law.nd (i_list (e_sliceL (e_var (pv 0)) (pe_some (e_z z_int)) (pe_some (e_z z_int)))) (blkOk_by (own := [("_law_cell", 4)]) (N := ["_law_script", "_law_size", "_law_wide", "_law_boxes", "_law_cell", "_law_found", "_law_box_here", "_law_every", "_law_numbers", "_law_ends", "_law_point", "_law_k", "_law_span", "_law_order", "_law_cut", "_law_again", "_law_number", "_law_turned"]) (sc := defScope s_law) (by decide +kernel)) (fun _ _ _ _ _ => (g_name (i := 4) sc_law.nd rfl (.inl rfl))) (fun _ _ _ _ _ => ts_nil) (fun _ _ _ _ _ c => (e_call c G__law_box hr (by rfl) (a_cons (e_var (pv 4)) (a_cons (e_var (pv 1)) (a_cons (e_var (pv 2)) a_nil)))))) (hs := sw_false rfl))
    (s_cons (s_set (i := 5) sc_law.nd rfl (.inl rfl) (e_call c G_islands hr (by rfl) (a_cons (e_lc (own := [("_law_box_here", 6)]) c sc_law.nd (i_list (e_var (pv 3))) (blkOk_by (own := [("_law_box_here", 6)]) (N := ["_law_script", "_law_size", "_law_wide", "_law_boxes", "_law_cell", "_law_found", "_law_box_here", "_law_every", "_law_numbers", "_law_ends", "_law_point", "_law_k", "_law_span", "_law_order", "_law_cut", "_law_again", "_law_number", "_law_turned"]) (sc := defScope s_law) (by decide +kernel)) (fun _ _ _ _ _ => (g_name (i := 6) sc_law.nd rfl (.inl rfl))) (fun _ _ _ _ _ => ts_nil) (fun _ _ _ _ _ c => (e_lstOf (by rfl) T.list_ (by decide +kernel) (a_cons (e_var (pv 6)) a_nil)))) a_nil)))
    (s_cons (s_set (i := 7) sc_law.nd rfl (.inl rfl) (e_lst a_nil))
    (s_cons (s_for c (i_list (e_var (pv 5))) (g_tup c.calm (gs_cons (g_name (i := 8) sc_law.nd rfl (.inl rfl)) (gs_cons (g_name (i := 9) sc_law.nd rfl (.inl rfl)) gs_nil))) (s_one (s_set (i := 7) sc_law.nd rfl (.inl rfl) (e_cat (e_var (pv 7)) (e_var (pv 8))))))
    (s_cons (s_if (PW.pt (t_or (t_cmpE (op_neD hr.units) sNe (e_sorted (by rfl) T.sorted (by decide +kernel) (a_cons (e_var (pv 7)) a_nil)) (e_lstRg c (by rfl) T.list_ (by rfl) T.range (e_z (z_callB call_len sLen (by rfl) T.len_ (by decide +kernel) (za_cons (z_var (pv 3)) za_nil))))) (t_or1 (t_not (t_valE (e_call c G__law_together hr (by rfl) (a_cons (e_var (pv 3)) (a_cons (e_var (pv 5)) a_nil)))))))) (s_one (s_ret (e_z z_bl))) s_nil)
    (s_cons (s_for c (i_zip (by rfl) T.zip (a_cons (e_sliceL (e_var (pv 0)) (pe_some (e_z z_int)) (pe_some (e_z z_int))) (a_cons (e_var (pv 3)) a_nil))) (g_tup c.calm (gs_cons (g_name (i := 4) sc_law.nd rfl (.inr rfl)) (gs_cons (g_name (i := 6) sc_law.nd rfl (.inl rfl)) gs_nil))) (s_cons (s_setLc (i := 10) (own := [("_law_k", 11), ("_law_span", 12)]) c sc_law.nd rfl rfl (sw_true rfl rfl rfl (by decide +kernel)) (i_enum (by rfl) T.enumerate (a_cons (e_var (pv 6)) a_nil)) (blkOk_by (own := [("_law_k", 11), ("_law_span", 12)]) (N := ["_law_script", "_law_size", "_law_wide", "_law_boxes", "_law_cell", "_law_found", "_law_box_here", "_law_every", "_law_numbers", "_law_ends", "_law_point", "_law_k", "_law_span", "_law_order", "_law_cut", "_law_again", "_law_number", "_law_turned"]) (sc := defScope s_law) (by decide +kernel)) (fun _ _ _ _ _ => (g_tup c.calm (gs_cons (g_name (i := 11) sc_law.nd rfl (.inl rfl)) (gs_cons (g_name (i := 12) sc_law.nd rfl (.inl rfl)) gs_nil)))) (fun _ _ _ _ _ => ts_nil) (fun _ _ _ _ _ c => (e_call c G__law_third hr (by rfl) (a_cons (e_var (pv 12)) (a_cons (e_call c G__law_mix hr (by rfl) (a_cons (e_var (pv 4)) (a_cons (e_z (z_op op_add sAdd z_int (z_var (pv 11)))) a_nil))) a_nil)))))
    (s_one (s_if (t_not (t_valE (e_call c G__law_point_right hr (by rfl) (a_cons (e_var (pv 10)) (a_cons (e_var (pv 3)) (a_cons (e_var (pv 5)) a_nil)))))) (s_one (s_ret (e_z z_bl))) s_nil))))
    (s_cons (s_set (i := 13) sc_law.nd rfl (.inr rfl) (e_lstRg c (by rfl) T.list_ (by rfl) T.range (e_z (z_callB call_len sLen (by rfl) T.len_ (by decide +kernel) (za_cons (z_var (pv 3)) za_nil)))))
    (s_cons (s_set (i := 14) sc_law.nd rfl (.inl rfl) (e_op op_mod sMod (e_op op_fdivW sDiv (e_call c G__law_cell_at hr (by rfl) (a_cons (e_var (pv 0)) (a_cons (e_z z_int) a_nil))) (e_z z_int)) (e_z (z_op op_add sAdd (z_callB call_len sLen (by rfl) T.len_ (by decide +kernel) (za_cons (z_var (pv 3)) za_nil)) z_int))))
    (s_cons (s_set (i := 13) sc_law.nd rfl (.inr rfl) (e_cat (e_sliceL (e_var (pv 13)) (pe_some (e_var (pv 14))) pe_none) (e_sliceL (e_var (pv 13)) pe_none (pe_some (e_var (pv 14))))))
    (s_cons (s_if (t_cmpE (op_eqD hr.units) sEq (e_op op_mod sMod (e_call c G__law_cell_at hr (by rfl) (a_cons (e_var (pv 0)) (a_cons (e_z z_int) a_nil))) (e_z z_int)) (e_z z_int)) (s_one (s_set (i := 13) sc_law.nd rfl (.inr rfl) (e_lstRev c (by rfl) T.list_ (by rfl) T.reversed (e_var (pv 13))))) s_nil)
    (s_cons (s_set (i := 15) sc_law.nd rfl (.inl rfl) (e_call c G_islands hr (by rfl) (a_cons (e_lc (own := [("_law_number", 16)]) c sc_law.nd (i_list (e_var (pv 13))) (blkOk_by (own := [("_law_number", 16)]) (N := ["_law_script", "_law_size", "_law_wide", "_law_boxes", "_law_cell", "_law_found", "_law_box_here", "_law_every", "_law_numbers", "_law_ends", "_law_point", "_law_k", "_law_span", "_law_order", "_law_cut", "_law_again", "_law_number", "_law_turned"]) (sc := defScope s_law) (by decide +kernel)) (fun _ _ _ _ _ => (g_name (i := 16) sc_law.nd rfl (.inl rfl))) (fun _ _ _ _ _ => ts_nil) (fun _ _ _ _ _ c => (e_lstOf (by rfl) T.list_ (by decide +kernel) (a_cons (e_z (z_ix ix_seq sIx (z_var (pv 3)) (z_var (pv 16)))) a_nil)))) a_nil)))
    (s_cons (s_set (i := 17) sc_law.nd rfl (.inl rfl) (e_sortedD hr (by rfl) T.sorted (by decide +kernel) (a_cons (e_lc (own := [("_law_numbers", 8), ("_law_ends", 9)]) c sc_law.nd (i_list (e_var (pv 15))) (blkOk_by (own := [("_law_numbers", 8), ("_law_ends", 9)]) (N := ["_law_script", "_law_size", "_law_wide", "_law_boxes", "_law_cell", "_law_found", "_law_box_here", "_law_every", "_law_numbers", "_law_ends", "_law_point", "_law_k", "_law_span", "_law_order", "_law_cut", "_law_again", "_law_number", "_law_turned"]) (sc := defScope s_law) (by decide +kernel)) (fun _ _ _ _ _ => (g_tup c.calm (gs_cons (g_name (i := 8) sc_law.nd rfl (.inl rfl)) (gs_cons (g_name (i := 9) sc_law.nd rfl (.inl rfl)) gs_nil)))) (fun _ _ _ _ _ => ts_nil) (fun _ _ _ _ _ c => (e_tup (a_cons (e_sorted (by rfl) T.sorted (by decide +kernel) (a_cons (e_lc (own := [("_law_k", 11)]) c sc_law.nd (i_list (e_var (pv 8))) (blkOk_by (own := [("_law_k", 11)]) (N := ["_law_script", "_law_size", "_law_wide", "_law_boxes", "_law_cell", "_law_found", "_law_box_here", "_law_every", "_law_numbers", "_law_ends", "_law_point", "_law_k", "_law_span", "_law_order", "_law_cut", "_law_again", "_law_number", "_law_turned"]) (sc := _) (by kernel_rfl)) (fun _ _ _ _ _ => (g_name (i := 11) sc_law.nd rfl (.inl rfl))) (fun _ _ _ _ _ => ts_nil) (fun _ _ _ _ _ c => (e_z (z_ix ix_seq sIx (z_var (pv 13)) (z_var (pv 11)))))) a_nil)) (a_cons (e_var (pv 9)) a_nil))))) a_nil)))
    (s_one (s_ret (e_cmp (op_eqD hr.units) sEq (e_var (pv 17)) (e_sortedD hr (by rfl) T.sorted (by decide +kernel) (a_cons (e_lc (own := [("_law_numbers", 8), ("_law_ends", 9)]) c sc_law.nd (i_list (e_var (pv 5))) (blkOk_by (own := [("_law_numbers", 8), ("_law_ends", 9)]) (N := ["_law_script", "_law_size", "_law_wide", "_law_boxes", "_law_cell", "_law_found", "_law_box_here", "_law_every", "_law_numbers", "_law_ends", "_law_point", "_law_k", "_law_span", "_law_order", "_law_cut", "_law_again", "_law_number", "_law_turned"]) (sc := defScope s_law) (by decide +kernel)) (fun _ _ _ _ _ => (g_tup c.calm (gs_cons (g_name (i := 8) sc_law.nd rfl (.inl rfl)) (gs_cons (g_name (i := 9) sc_law.nd rfl (.inl rfl)) gs_nil)))) (fun _ _ _ _ _ => ts_nil) (fun _ _ _ _ _ c => (e_tup (a_cons (e_var (pv 8)) (a_cons (e_var (pv 9)) a_nil))))) a_nil)))))))))))))))))))
theorem repL_ints {K : PySem.W.Frag} {ca : Str → Addr} {F : Hp} : ∀ ns : List Int, RepL K ca F (ns.map D.int) (ns.map V.int)
  | [] => rfl
  | i :: r => ⟨.int i, r.map V.int, rfl, rfl, repL_ints r⟩
theorem cx_none {P : Program} {w : World} {H : Hp} {s : Shared} {e : Value} {s' : Shared} (h : L2.CX P w [] H s (fun _ _ _ => False) e s') : False := by
  obtain ⟨_, _, _, _, _, _, _, _, _, _, _, _, z⟩ := h
  exact z
def spL (K : PySem.W.Frag) : Sp := fun vs H Q _ => ∃ (a : Addr) (ns : List Int), vs = [.ref a] ∧ ns.length ≤ 63 ∧ SqL K H a (ns.map V.int) ∧ ∀ H', Q (.bl true) H'
theorem sp_law {K : PySem.W.Frag} {ca : Str → Addr} (hl : ∀ ns : List Int, ns.length ≤ 63 → f_law [.cst (ns.map D.int)] = .ok (.bl true)) (vs : List V) (H : Hp) (Q : VK) (E : XK) (h : spL K vs H Q E) : spP K ca f_law vs H Q E := by
  obtain ⟨a, ns, rfl, hn, hS, q⟩ := h
  refine ⟨H, [.cst (ns.map D.int)], Same.refl _, ⟨.ref a, [], rfl, ⟨a, _, rfl, hS, repL_ints ns⟩, rfl⟩, ?_⟩
  rw [hl ns hn]
  intro v F' H' f _ _ _ hv _ _ _
  cases (show v = .bl true from hv.1)
  exact q H'

--HRUNB
end
section
variable {P : Program} {w : World} {K : PySem.W.Frag} {mg : Str → Option Value} {base : Heap} {ca : Str → Addr}
set_option maxHeartbeats 0 in
theorem facts {l : PySem.W.OpenLaw} {w : World} {K : PySem.W.Frag} {h : Heap} {mg : Str → Option Value} {fa : Addr} (X : K.In h) (G : h.Ns mainGlobals mg) (hfa0 : mg "law" = some (.ref fa)) (c : He.SaysE hfa hfn K) (he : hex K = true)
    : ∃ fd : FuncData, (∀ (s : Shared) (v : Value), BindsTo s fd ⟨[v], []⟩ [("_law_script", v)]) ∧ ∀ base : Heap, K.In base → base.Ns mainGlobals mg → FnOk l.prog w K mg base (L2.CX l.prog w) 5 fa fd ["_law_script"] (spL K) := by
  have hfa := hfa0
  obtain ⟨oc0, od0, sl0, kV0, dc0, pm0, an0, cd0, ct0, l0, c0⟩ := c.def_ 0 (d := fd0) rfl
  have a0 : PySem.W.nsIn K mainGlobals "common" = some (some (.ref (He.ga K "common"))) := eqO' (c.fact 0 (f := .glo "common") rfl)
  have k0 : PySem.W.keepIn K (.ref (He.ga K "common")) = true := (c.fact 1 (f := .keep "common") rfl)
  obtain ⟨oc1, od1, sl1, kV1, dc1, pm1, an1, cd1, ct1, l1, c1⟩ := c.def_ 1 (d := fd1) rfl
  have a1 : PySem.W.nsIn K mainGlobals "touch" = some (some (.ref (He.ga K "touch"))) := eqO' (c.fact 2 (f := .glo "touch") rfl)
  have k1 : PySem.W.keepIn K (.ref (He.ga K "touch")) = true := (c.fact 3 (f := .keep "touch") rfl)
  obtain ⟨oc2, od2, sl2, kV2, dc2, pm2, an2, cd2, ct2, l2, c2⟩ := c.def_ 2 (d := fd2) rfl
  have a2 : PySem.W.nsIn K mainGlobals "grown_from" = some (some (.ref (He.ga K "grown_from"))) := eqO' (c.fact 4 (f := .glo "grown_from") rfl)
  have k2 : PySem.W.keepIn K (.ref (He.ga K "grown_from")) = true := (c.fact 5 (f := .keep "grown_from") rfl)
  obtain ⟨oc3, od3, sl3, kV3, dc3, pm3, an3, cd3, ct3, l3, c3⟩ := c.def_ 3 (d := fd3) rfl
  have a3 : PySem.W.nsIn K mainGlobals "hull" = some (some (.ref (He.ga K "hull"))) := eqO' (c.fact 6 (f := .glo "hull") rfl)
  have k3 : PySem.W.keepIn K (.ref (He.ga K "hull")) = true := (c.fact 7 (f := .keep "hull") rfl)
  obtain ⟨oc4, od4, sl4, kV4, dc4, pm4, an4, cd4, ct4, l4, c4⟩ := c.def_ 4 (d := fd4) rfl
  have a4 : PySem.W.nsIn K mainGlobals "hull_of" = some (some (.ref (He.ga K "hull_of"))) := eqO' (c.fact 8 (f := .glo "hull_of") rfl)
  have k4 : PySem.W.keepIn K (.ref (He.ga K "hull_of")) = true := (c.fact 9 (f := .keep "hull_of") rfl)
  obtain ⟨oc5, od5, sl5, kV5, dc5, pm5, an5, cd5, ct5, l5, c5⟩ := c.def_ 5 (d := fd5) rfl
  have a5 : PySem.W.nsIn K mainGlobals "islands" = some (some (.ref (He.ga K "islands"))) := eqO' (c.fact 10 (f := .glo "islands") rfl)
  have k5 : PySem.W.keepIn K (.ref (He.ga K "islands")) = true := (c.fact 11 (f := .keep "islands") rfl)
  obtain ⟨oc6, od6, sl6, kV6, dc6, pm6, an6, cd6, ct6, l6, c6⟩ := c.def_ 6 (d := fd6) rfl
  have a6 : PySem.W.nsIn K mainGlobals "_law_mix" = some (some (.ref (He.ga K "_law_mix"))) := eqO' (c.fact 12 (f := .glo "_law_mix") rfl)
  have k6 : PySem.W.keepIn K (.ref (He.ga K "_law_mix")) = true := (c.fact 13 (f := .keep "_law_mix") rfl)
  obtain ⟨oc7, od7, sl7, kV7, dc7, pm7, an7, cd7, ct7, l7, c7⟩ := c.def_ 7 (d := fd7) rfl
  have a7 : PySem.W.nsIn K mainGlobals "_law_box" = some (some (.ref (He.ga K "_law_box"))) := eqO' (c.fact 14 (f := .glo "_law_box") rfl)
  have k7 : PySem.W.keepIn K (.ref (He.ga K "_law_box")) = true := (c.fact 15 (f := .keep "_law_box") rfl)
  obtain ⟨oc8, od8, sl8, kV8, dc8, pm8, an8, cd8, ct8, l8, c8⟩ := c.def_ 8 (d := fd8) rfl
  have a8 : PySem.W.nsIn K mainGlobals "_law_cell_at" = some (some (.ref (He.ga K "_law_cell_at"))) := eqO' (c.fact 16 (f := .glo "_law_cell_at") rfl)
  have k8 : PySem.W.keepIn K (.ref (He.ga K "_law_cell_at")) = true := (c.fact 17 (f := .keep "_law_cell_at") rfl)
  obtain ⟨oc9, od9, sl9, kV9, dc9, pm9, an9, cd9, ct9, l9, c9⟩ := c.def_ 9 (d := fd9) rfl
  have a9 : PySem.W.nsIn K mainGlobals "_law_touch" = some (some (.ref (He.ga K "_law_touch"))) := eqO' (c.fact 18 (f := .glo "_law_touch") rfl)
  have k9 : PySem.W.keepIn K (.ref (He.ga K "_law_touch")) = true := (c.fact 19 (f := .keep "_law_touch") rfl)
  obtain ⟨oc10, od10, sl10, kV10, dc10, pm10, an10, cd10, ct10, l10, c10⟩ := c.def_ 10 (d := fd10) rfl
  have a10 : PySem.W.nsIn K mainGlobals "_law_reached" = some (some (.ref (He.ga K "_law_reached"))) := eqO' (c.fact 20 (f := .glo "_law_reached") rfl)
  have k10 : PySem.W.keepIn K (.ref (He.ga K "_law_reached")) = true := (c.fact 21 (f := .keep "_law_reached") rfl)
  obtain ⟨oc11, od11, sl11, kV11, dc11, pm11, an11, cd11, ct11, l11, c11⟩ := c.def_ 11 (d := fd11) rfl
  have a11 : PySem.W.nsIn K mainGlobals "_law_together" = some (some (.ref (He.ga K "_law_together"))) := eqO' (c.fact 22 (f := .glo "_law_together") rfl)
  have k11 : PySem.W.keepIn K (.ref (He.ga K "_law_together")) = true := (c.fact 23 (f := .keep "_law_together") rfl)
  obtain ⟨oc12, od12, sl12, kV12, dc12, pm12, an12, cd12, ct12, l12, c12⟩ := c.def_ 12 (d := fd12) rfl
  have a12 : PySem.W.nsIn K mainGlobals "_law_third" = some (some (.ref (He.ga K "_law_third"))) := eqO' (c.fact 24 (f := .glo "_law_third") rfl)
  have k12 : PySem.W.keepIn K (.ref (He.ga K "_law_third")) = true := (c.fact 25 (f := .keep "_law_third") rfl)
  obtain ⟨oc13, od13, sl13, kV13, dc13, pm13, an13, cd13, ct13, l13, c13⟩ := c.def_ 13 (d := fd13) rfl
  have a13 : PySem.W.nsIn K mainGlobals "_law_within" = some (some (.ref (He.ga K "_law_within"))) := eqO' (c.fact 26 (f := .glo "_law_within") rfl)
  have k13 : PySem.W.keepIn K (.ref (He.ga K "_law_within")) = true := (c.fact 27 (f := .keep "_law_within") rfl)
  obtain ⟨oc14, od14, sl14, kV14, dc14, pm14, an14, cd14, ct14, l14, c14⟩ := c.def_ 14 (d := fd14) rfl
  have a14 : PySem.W.nsIn K mainGlobals "_law_point_right" = some (some (.ref (He.ga K "_law_point_right"))) := eqO' (c.fact 28 (f := .glo "_law_point_right") rfl)
  have k14 : PySem.W.keepIn K (.ref (He.ga K "_law_point_right")) = true := (c.fact 29 (f := .keep "_law_point_right") rfl)
  obtain ⟨oc15, od15, sl15, kV15, dc15, pm15, an15, cd15, ct15, l15, c15⟩ := c.def_ 15 (d := fd15) rfl
  have a15 : PySem.W.nsIn K mainGlobals "law" = some (some (.ref (He.ga K "law"))) := eqO' (c.fact 30 (f := .glo "law") rfl)
  have k15 : PySem.W.keepIn K (.ref (He.ga K "law")) = true := (c.fact 31 (f := .keep "law") rfl)
  have z_any_ : PySem.W.nsIn K mainGlobals "any" = some none := eqO' (c.fact 32 (f := .free "any") rfl)
  have z_enumerate : PySem.W.nsIn K mainGlobals "enumerate" = some none := eqO' (c.fact 33 (f := .free "enumerate") rfl)
  have z_len_ : PySem.W.nsIn K mainGlobals "len" = some none := eqO' (c.fact 34 (f := .free "len") rfl)
  have z_list_ : PySem.W.nsIn K mainGlobals "list" = some none := eqO' (c.fact 35 (f := .free "list") rfl)
  have z_max_ : PySem.W.nsIn K mainGlobals "max" = some none := eqO' (c.fact 36 (f := .free "max") rfl)
  have z_min_ : PySem.W.nsIn K mainGlobals "min" = some none := eqO' (c.fact 37 (f := .free "min") rfl)
  have z_range : PySem.W.nsIn K mainGlobals "range" = some none := eqO' (c.fact 38 (f := .free "range") rfl)
  have z_reversed : PySem.W.nsIn K mainGlobals "reversed" = some none := eqO' (c.fact 39 (f := .free "reversed") rfl)
  have z_sorted : PySem.W.nsIn K mainGlobals "sorted" = some none := eqO' (c.fact 40 (f := .free "sorted") rfl)
  have z_zip : PySem.W.nsIn K mainGlobals "zip" = some none := eqO' (c.fact 41 (f := .free "zip") rfl)
  have e := hfa.symm.trans (PySem.W.mg_of X G a15)
  cases e
  have F0 := fun_mk (st := s_common) l0 c0 k0
  have b0 := F0.binds (ps := ["a", "b"]) fun _ _ _ _ _ _ us hl => match us, hl with | [_, _], _ => rfl
  have F1 := fun_mk (st := s_touch) l1 c1 k1
  have b1 := F1.binds (ps := ["one", "other"]) fun _ _ _ _ _ _ us hl => match us, hl with | [_, _], _ => rfl
  have F2 := fun_mk (st := s_grown_from) l2 c2 k2
  have b2 := F2.binds (ps := ["boxes", "first"]) fun _ _ _ _ _ _ us hl => match us, hl with | [_, _], _ => rfl
  have F3 := fun_mk (st := s_hull) l3 c3 k3
  have b3 := F3.binds (ps := ["a", "b"]) fun _ _ _ _ _ _ us hl => match us, hl with | [_, _], _ => rfl
  have F4 := fun_mk (st := s_hull_of) l4 c4 k4
  have b4 := F4.binds (ps := ["boxes", "numbers"]) fun _ _ _ _ _ _ us hl => match us, hl with | [_, _], _ => rfl
  have F5 := fun_mk (st := s_islands) l5 c5 k5
  have b5 := F5.binds (ps := ["boxes"]) fun _ _ _ _ _ _ us hl => match us, hl with | [_], _ => rfl
  have F6 := fun_mk (st := s__law_mix) l6 c6 k6
  have b6 := F6.binds (ps := ["_law_cell", "_law_k"]) fun _ _ _ _ _ _ us hl => match us, hl with | [_, _], _ => rfl
  have F7 := fun_mk (st := s__law_box) l7 c7 k7
  have b7 := F7.binds (ps := ["_law_cell", "_law_size", "_law_wide"]) fun _ _ _ _ _ _ us hl => match us, hl with | [_, _, _], _ => rfl
  have F8 := fun_mk (st := s__law_cell_at) l8 c8 k8
  have b8 := F8.binds (ps := ["_law_script", "_law_k"]) fun _ _ _ _ _ _ us hl => match us, hl with | [_, _], _ => rfl
  have F9 := fun_mk (st := s__law_touch) l9 c9 k9
  have b9 := F9.binds (ps := ["_law_one", "_law_other"]) fun _ _ _ _ _ _ us hl => match us, hl with | [_, _], _ => rfl
  have F10 := fun_mk (st := s__law_reached) l10 c10 k10
  have b10 := F10.binds (ps := ["_law_boxes", "_law_numbers"]) fun _ _ _ _ _ _ us hl => match us, hl with | [_, _], _ => rfl
  have F11 := fun_mk (st := s__law_together) l11 c11 k11
  have b11 := F11.binds (ps := ["_law_boxes", "_law_found"]) fun _ _ _ _ _ _ us hl => match us, hl with | [_, _], _ => rfl
  have F12 := fun_mk (st := s__law_third) l12 c12 k12
  have b12 := F12.binds (ps := ["_law_span", "_law_cell"]) fun _ _ _ _ _ _ us hl => match us, hl with | [_, _], _ => rfl
  have F13 := fun_mk (st := s__law_within) l13 c13 k13
  have b13 := F13.binds (ps := ["_law_point", "_law_box_here"]) fun _ _ _ _ _ _ us hl => match us, hl with | [_, _], _ => rfl
  have F14 := fun_mk (st := s__law_point_right) l14 c14 k14
  have b14 := F14.binds (ps := ["_law_point", "_law_boxes", "_law_found"]) fun _ _ _ _ _ _ us hl => match us, hl with | [_, _, _], _ => rfl
  have F15 := fun_mk (st := s_law) l15 c15 k15
  have b15 := F15.binds (ps := ["_law_script"]) fun _ _ _ _ _ _ us hl => match us, hl with | [_], _ => rfl
  have T : Tx K mg (fun _ => 0) := { any_ := PySem.W.mg_none_of X G z_any_, enumerate := PySem.W.mg_none_of X G z_enumerate, len_ := PySem.W.mg_none_of X G z_len_, list_ := PySem.W.mg_none_of X G z_list_, max_ := PySem.W.mg_none_of X G z_max_, min_ := PySem.W.mg_none_of X G z_min_, range := PySem.W.mg_none_of X G z_range, reversed := PySem.W.mg_none_of X G z_reversed, sorted := PySem.W.mg_none_of X G z_sorted, zip := PySem.W.mg_none_of X G z_zip }
  refine ⟨PySem.W.fnOf "law" "law" (defArgs s_law) (defBody s_law) (defScope s_law) .none kV15 dc15 pm15 an15 cd15 ct15, fun s v => .of_eq rfl, fun base _ _ => ?_⟩
  have G_common : Fo l.prog w K mg base (fun _ => 0) 1 "common" f_common := fo_of F0 (PySem.W.mg_of X G a0) b0 (ok_common T  F0)
  have G_touch : Fo l.prog w K mg base (fun _ => 0) 2 "touch" f_touch := fo_of F1 (PySem.W.mg_of X G a1) b1 (ok_touch T G_common F1)
  have G_grown_from : Fo l.prog w K mg base (fun _ => 0) 3 "grown_from" f_grown_from := fo_of F2 (PySem.W.mg_of X G a2) b2 (ok_grown_from T G_touch F2)
  have G_hull : Fo l.prog w K mg base (fun _ => 0) 1 "hull" f_hull := fo_of F3 (PySem.W.mg_of X G a3) b3 (ok_hull T  F3)
  have G_hull_of : Fo l.prog w K mg base (fun _ => 0) 2 "hull_of" f_hull_of := fo_of F4 (PySem.W.mg_of X G a4) b4 (ok_hull_of T G_hull F4)
  have G_islands : Fo l.prog w K mg base (fun _ => 0) 4 "islands" f_islands := fo_of F5 (PySem.W.mg_of X G a5) b5 (ok_islands T G_grown_from G_hull_of F5)
  have G__law_mix : Fo l.prog w K mg base (fun _ => 0) 1 "_law_mix" f__law_mix := fo_of F6 (PySem.W.mg_of X G a6) b6 (ok__law_mix T  F6)
  have G__law_box : Fo l.prog w K mg base (fun _ => 0) 2 "_law_box" f__law_box := fo_of F7 (PySem.W.mg_of X G a7) b7 (ok__law_box T G__law_mix F7)
  have G__law_cell_at : Fo l.prog w K mg base (fun _ => 0) 1 "_law_cell_at" f__law_cell_at := fo_of F8 (PySem.W.mg_of X G a8) b8 (ok__law_cell_at T  F8)
  have G__law_touch : Fo l.prog w K mg base (fun _ => 0) 1 "_law_touch" f__law_touch := fo_of F9 (PySem.W.mg_of X G a9) b9 (ok__law_touch T  F9)
  have G__law_reached : Fo l.prog w K mg base (fun _ => 0) 2 "_law_reached" f__law_reached := fo_of F10 (PySem.W.mg_of X G a10) b10 (ok__law_reached T G__law_touch F10)
  have G__law_together : Fo l.prog w K mg base (fun _ => 0) 3 "_law_together" f__law_together := fo_of F11 (PySem.W.mg_of X G a11) b11 (ok__law_together T G__law_reached G__law_touch F11)
  have G__law_third : Fo l.prog w K mg base (fun _ => 0) 1 "_law_third" f__law_third := fo_of F12 (PySem.W.mg_of X G a12) b12 (ok__law_third T  F12)
  have G__law_within : Fo l.prog w K mg base (fun _ => 0) 1 "_law_within" f__law_within := fo_of F13 (PySem.W.mg_of X G a13) b13 (ok__law_within T  F13)
  have G__law_point_right : Fo l.prog w K mg base (fun _ => 0) 2 "_law_point_right" f__law_point_right := fo_of F14 (PySem.W.mg_of X G a14) b14 (ok__law_point_right T G__law_within F14)
  exact (ok_law T G_islands G__law_box G__law_cell_at G__law_together G__law_third G__law_point_right G__law_mix F15).imp fun vs H Q E hs => sp_law law_true vs H Q E hs
end
end Lw
open PySem PySem.W PySem.Calls PyProof.Rows
set_option maxHeartbeats 0 in
theorem PySem.Challenge.cw_boxnarrow_k73_islands_apart_holds : PySem.Challenge.rw_boxnarrow_k73_islands_apart.Holds := by
  w_on; o_law
  refine HandSHeadRun.head_any (r := (OpenLaw.row PySem.Challenge.rw_boxnarrow_k73_islands_apart)) (q := view (OpenLaw.row PySem.Challenge.rw_boxnarrow_k73_islands_apart).prog [18]) (H := Lw.hk) (ob := Lw.hob) (loose := Lw.hnames) (d := HandSHeadRun.topDef (OpenLaw.row PySem.Challenge.rw_boxnarrow_k73_islands_apart).prog 18) (kwd := []) Lw.hob_eq (by kernel_rfl) (fun s => by kernel_rfl) Lw.hrun (by kernel_rfl) (by kernel_rfl) (by kernel_rfl) (by rfl) (by first | assumption | decide +kernel) (by decide +kernel) ⟨rfl, rfl, rfl, rfl, rfl, by decide +kernel⟩ ?hw ?hc
  case hw => w_witness2
  case hc =>
    refine Bn.walkB (l := PySem.Challenge.rw_boxnarrow_k73_islands_apart) (n := 63) (k := 5) (x := "_law_script") (CX := fun w => L2.CX PySem.Challenge.rw_boxnarrow_k73_islands_apart.prog w) rfl (by decide) (by kernel_rfl) ⟨rfl, by decide, by decide⟩ ?F (fun _ _ _ _ _ h => Lw.cx_none h)
    intro w mg fa h Y G hmg0
    obtain ⟨K, KX, c, e⟩ := Y
    have hmg : mg ("law" : PySem.Str) = some (.ref fa) := by
      have q : (HandSHeadRun.topDef (OpenLaw.row PySem.Challenge.rw_boxnarrow_k73_islands_apart).prog 18).name = ("law" : PySem.Str) := by kernel_rfl
      rw [← q]
      exact hmg0
    obtain ⟨fd, hb, hF⟩ := Lw.facts (l := PySem.Challenge.rw_boxnarrow_k73_islands_apart) (w := w) KX G hmg c e
    exact ⟨K, fd, Lw.spL K, KX, hb, fun H a ns hl _ hS => ⟨a, ns, rfl, hl, hS, fun _ => rfl⟩, hF⟩

