import PyProof.Rows.All
import Wide.All
import OpenK.AllK
import Wide.FinOn
import HandS.ForExc
import HandS.ForMost
import HandS.Wide
import HandS.IsInst
import HandS.ExcIs
import HandS.Deep
import HandS.SortInts
import HandS.TupLe
import HandS.Rev
import HandS.More
import HandS.Iter
import HandS.Head0
import HandS.Head1
import HandS.Head2
import HandS.HeadHook1
import HandS.HeadHook2
import PySem.Challenge.RW_boxnarrow_k72_islands
set_option Elab.async false
set_option linter.all false
set_option maxRecDepth 100000
set_option maxHeartbeats 2000000
/-! Values as trees; who owns what. -/
namespace Bn
open PySem PySem.Spec PyProof.Rows L2

inductive D where
  | non | bl (b : Bool) | int (i : Int) | str (s : Str) | ty (n : String)
  | tup (xs : List D)
  | lst (m : Bool) (xs : List D)
  | cst (xs : List D)
  | obj (m : Bool) (c : Str) (ns : List Str) (xs : List D)
  | val (v : V)
  | tpo (xs : List D)
  | dct (m : Bool) (ks : List Key) (xs : List D)
  deriving Inhabited
abbrev Env := List (Option D)
abbrev Ct := Addr → Nat

def isFz : D → Bool
  | .lst true _ => false
  | .obj true _ _ _ => false
  | .tpo _ => false
  | .dct true _ _ => false
  | _ => true

mutual
def freeze : D → D
  | .lst true xs => .lst false (freezeL xs)
  | .lst false xs => .lst false xs
  | .obj true c ns xs => .obj false c ns (freezeL xs)
  | .obj false c ns xs => .obj false c ns xs
  | .tpo xs => .tup (freezeL xs)
  | .dct true ks xs => .dct false ks (freezeL xs)
  | .dct false ks xs => .dct false ks xs
  | .val v => .val v
  | .non => .non | .bl b => .bl b | .int i => .int i | .str s => .str s | .ty n => .ty n | .tup xs => .tup xs | .cst xs => .cst xs
def freezeL : List D → List D
  | [] => []
  | x :: xs => freeze x :: freezeL xs
end

section
variable (K : PySem.W.Frag) (ca : Str → Addr)
mutual
/-- d stands at v, in the part F of the heap that never changes -/
def Rep (F : Hp) : D → V → Prop
  | .non, v => v = .non
  | .bl b, v => v = .bl b
  | .int i, v => v = .int i
  | .str s, v => v = .str s
  | .ty n, v => v = .ty n
  | .val w, v => v = w
  | .tpo _, _ => False
  | .dct true _ _, _ => False
  | .dct false ks ds, v => ∃ a vs, v = .ref a ∧ F a = some (.dK (ks.zip vs)) ∧ ks.length = vs.length ∧ RepL F ds vs
  | .tup ds, v => ∃ a vs, v = .ref a ∧ SqT K F a vs ∧ RepL F ds vs
  | .lst true _, _ => False
  | .lst false ds, v => ∃ a vs, v = .ref a ∧ F a = some (.lst vs) ∧ RepL F ds vs
  | .cst ds, v => ∃ a vs, v = .ref a ∧ SqL K F a vs ∧ RepL F ds vs
  | .obj true _ _ _, _ => False
  | .obj false c ns ds, v => ∃ a dx fs vs, v = .ref a ∧ F a = some (.ins (ca c) dx fs) ∧ fs = ns.zip vs ∧ ns.length = vs.length ∧ RepL F ds vs
def RepL (F : Hp) : List D → List V → Prop
  | [], vs => vs = []
  | d :: ds, vs => ∃ v r, vs = v :: r ∧ Rep F d v ∧ RepL F ds r
end
mutual
/-- d stands at v; what it owns is counted by the last argument -/
def RepO (F H : Hp) : D → V → Ct → Prop
  | .lst true ds, v, f => ∃ a vs g, v = .ref a ∧ H a = some (.lst vs) ∧ RepOs F H ds vs g ∧ ∀ b, f b = (if b = a then 1 else 0) + g b
  | .obj true c ns ds, v, f => ∃ a dx fs vs g, v = .ref a ∧ H a = some (.ins (ca c) dx fs) ∧ fs = ns.zip vs ∧ ns.length = vs.length ∧ RepOs F H ds vs g ∧ ∀ b, f b = (if b = a then 1 else 0) + g b
  | .lst false ds, v, f => Rep K ca F (.lst false ds) v ∧ ∀ b, f b = 0
  | .obj false c ns ds, v, f => Rep K ca F (.obj false c ns ds) v ∧ ∀ b, f b = 0
  | .non, v, f => Rep K ca F .non v ∧ ∀ b, f b = 0
  | .bl x, v, f => Rep K ca F (.bl x) v ∧ ∀ b, f b = 0
  | .int x, v, f => Rep K ca F (.int x) v ∧ ∀ b, f b = 0
  | .str x, v, f => Rep K ca F (.str x) v ∧ ∀ b, f b = 0
  | .ty x, v, f => Rep K ca F (.ty x) v ∧ ∀ b, f b = 0
  | .val x, v, f => Rep K ca F (.val x) v ∧ ∀ b, f b = 0
  | .tpo ds, v, f => ∃ a vs, v = .ref a ∧ SqT K F a vs ∧ RepOs F H ds vs f
  | .dct true ks ds, v, f => ∃ a vs g, v = .ref a ∧ H a = some (.dK (ks.zip vs)) ∧ ks.length = vs.length ∧ RepOs F H ds vs g ∧ ∀ b, f b = (if b = a then 1 else 0) + g b
  | .dct false ks ds, v, f => Rep K ca F (.dct false ks ds) v ∧ ∀ b, f b = 0
  | .tup x, v, f => Rep K ca F (.tup x) v ∧ ∀ b, f b = 0
  | .cst x, v, f => Rep K ca F (.cst x) v ∧ ∀ b, f b = 0
def RepOs (F H : Hp) : List D → List V → Ct → Prop
  | [], vs, f => vs = [] ∧ ∀ b, f b = 0
  | d :: ds, vs, f => ∃ v r f1 f2, vs = v :: r ∧ RepO F H d v f1 ∧ RepOs F H ds r f2 ∧ ∀ b, f b = f1 b + f2 b
end
end

section
variable {K : PySem.W.Frag} {ca : Str → Addr} {F F' H H' : Hp}

theorem sqT_same {K : PySem.W.Frag} {H H' : Hp} {a : Addr} {xs : List V} (e : Same H H') (h : SqT K H a xs) : SqT K H' a xs := by
  rcases h with (h | ⟨o, h⟩) | h
  · exact .inl (.inl (e _ _ h))
  · exact .inl (.inr ⟨o, e _ _ h⟩)
  · exact .inr h

mutual
theorem Rep.mono (e : Same F F') : ∀ (d : D) (v : V), Rep K ca F d v → Rep K ca F' d v
  | .non, _, h => h
  | .bl _, _, h => h
  | .int _, _, h => h
  | .str _, _, h => h
  | .ty _, _, h => h
  | .val _, _, h => h
  | .tpo _, _, h => h
  | .dct true _ _, _, h => h
  | .dct false ks ds, v, h => by
    obtain ⟨a, vs, h1, h2, h3, h4⟩ := h
    exact ⟨a, vs, h1, e _ _ h2, h3, RepL.mono e ds vs h4⟩
  | .tup ds, v, h => by
    obtain ⟨a, vs, h1, h2, h3⟩ := h
    exact ⟨a, vs, h1, sqT_same e h2, RepL.mono e ds vs h3⟩
  | .lst true _, _, h => h
  | .lst false ds, v, h => by
    obtain ⟨a, vs, h1, h2, h3⟩ := h
    exact ⟨a, vs, h1, e _ _ h2, RepL.mono e ds vs h3⟩
  | .cst ds, v, h => by
    obtain ⟨a, vs, h1, h2, h3⟩ := h
    exact ⟨a, vs, h1, e.seq h2, RepL.mono e ds vs h3⟩
  | .obj true _ _ _, _, h => h
  | .obj false c ns ds, v, h => by
    obtain ⟨a, dx, fs, vs, h1, h2, h3, h4, h5⟩ := h
    exact ⟨a, dx, fs, vs, h1, e _ _ h2, h3, h4, RepL.mono e ds vs h5⟩
theorem RepL.mono (e : Same F F') : ∀ (ds : List D) (vs : List V), RepL K ca F ds vs → RepL K ca F' ds vs
  | [], _, h => h
  | d :: ds, _, h => by
    obtain ⟨v, r, h1, h2, h3⟩ := h
    exact ⟨v, r, h1, Rep.mono e d v h2, RepL.mono e ds r h3⟩
end

theorem repO_fz {d : D} (hd : isFz d = true) {v : V} {f : Ct} : RepO K ca F H d v f ↔ (Rep K ca F d v ∧ ∀ b, f b = 0) := by
  cases d with
  | lst m xs => cases m with
    | true => cases hd
    | false => exact Iff.rfl
  | obj m c ns xs => cases m with
    | true => cases hd
    | false => exact Iff.rfl
  | tpo xs => cases hd
  | dct m ks xs => cases m with
    | true => cases hd
    | false => exact Iff.rfl
  | _ => exact Iff.rfl

theorem rep_isFz {d : D} {v : V} (h : Rep K ca F d v) : isFz d = true := by
  cases d with
  | lst m xs => cases m with
    | true => exact h.elim
    | false => rfl
  | obj m c ns xs => cases m with
    | true => exact h.elim
    | false => rfl
  | tpo xs => exact h.elim
  | dct m ks xs => cases m with
    | true => exact h.elim
    | false => rfl
  | _ => rfl

theorem Rep.o {d : D} {v : V} (h : Rep K ca F d v) : RepO K ca F H d v (fun _ => 0) := (repO_fz (rep_isFz h)).mpr ⟨h, fun _ => rfl⟩
theorem RepL.os : ∀ {ds : List D} {vs : List V}, RepL K ca F ds vs → RepOs K ca F H ds vs (fun _ => 0)
  | [], _, h => ⟨h, fun _ => rfl⟩
  | _ :: _, _, ⟨v, r, h1, h2, h3⟩ => ⟨v, r, _, _, h1, h2.o, h3.os, fun _ => rfl⟩

mutual
theorem RepO.mono (e : Same F F') : ∀ (d : D) (v : V) (f : Ct), (∀ a, 0 < f a → H' a = H a) → RepO K ca F H d v f → RepO K ca F' H' d v f
  | .lst true ds, v, f, k, h => by
    obtain ⟨a, vs, g, h1, h2, h3, h4⟩ := h
    refine ⟨a, vs, g, h1, (k a (by rw [h4, if_pos rfl]; omega)).trans h2, RepOs.mono e ds vs g (fun b hb => k b (by rw [h4]; omega)) h3, h4⟩
  | .obj true c ns ds, v, f, k, h => by
    obtain ⟨a, dx, fs, vs, g, h1, h2, h5, h6, h3, h4⟩ := h
    refine ⟨a, dx, fs, vs, g, h1, (k a (by rw [h4, if_pos rfl]; omega)).trans h2, h5, h6, RepOs.mono e ds vs g (fun b hb => k b (by rw [h4]; omega)) h3, h4⟩
  | .lst false ds, v, f, k, h => ⟨Rep.mono e _ _ h.1, h.2⟩
  | .obj false c ns ds, v, f, k, h => ⟨Rep.mono e _ _ h.1, h.2⟩
  | .non, v, f, k, h => ⟨Rep.mono e _ _ h.1, h.2⟩
  | .bl _, v, f, k, h => ⟨Rep.mono e _ _ h.1, h.2⟩
  | .int _, v, f, k, h => ⟨Rep.mono e _ _ h.1, h.2⟩
  | .str _, v, f, k, h => ⟨Rep.mono e _ _ h.1, h.2⟩
  | .ty _, v, f, k, h => ⟨Rep.mono e _ _ h.1, h.2⟩
  | .val _, v, f, k, h => ⟨Rep.mono e _ _ h.1, h.2⟩
  | .tpo ds, v, f, k, h => by
    obtain ⟨a, vs, h1, h2, h3⟩ := h
    exact ⟨a, vs, h1, sqT_same e h2, RepOs.mono e ds vs f k h3⟩
  | .dct true ks ds, v, f, k, h => by
    obtain ⟨a, vs, g, h1, h2, h5, h3, h4⟩ := h
    refine ⟨a, vs, g, h1, (k a (by rw [h4, if_pos rfl]; omega)).trans h2, h5, RepOs.mono e ds vs g (fun b hb => k b (by rw [h4]; omega)) h3, h4⟩
  | .dct false _ _, v, f, k, h => ⟨Rep.mono e _ _ h.1, h.2⟩
  | .tup _, v, f, k, h => ⟨Rep.mono e _ _ h.1, h.2⟩
  | .cst _, v, f, k, h => ⟨Rep.mono e _ _ h.1, h.2⟩
theorem RepOs.mono (e : Same F F') : ∀ (ds : List D) (vs : List V) (f : Ct), (∀ a, 0 < f a → H' a = H a) → RepOs K ca F H ds vs f → RepOs K ca F' H' ds vs f
  | [], _, _, _, h => h
  | d :: ds, _, f, k, h => by
    obtain ⟨v, r, f1, f2, h1, h2, h3, h4⟩ := h
    exact ⟨v, r, f1, f2, h1, RepO.mono e d v f1 (fun b hb => k b (by rw [h4]; omega)) h2, RepOs.mono e ds r f2 (fun b hb => k b (by rw [h4]; omega)) h3, h4⟩
end

mutual
theorem RepO.there : ∀ (d : D) (v : V) (f : Ct), RepO K ca F H d v f → ∀ a, 0 < f a → H a ≠ none
  | .lst true ds, v, f, h, b, hb => by
    obtain ⟨a, vs, g, h1, h2, h3, h4⟩ := h
    by_cases e : b = a
    · subst e; rw [h2]; exact fun z => by cases z
    · rw [h4, if_neg e] at hb; exact RepOs.there ds vs g h3 b (by omega)
  | .obj true c ns ds, v, f, h, b, hb => by
    obtain ⟨a, dx, fs, vs, g, h1, h2, h5, h6, h3, h4⟩ := h
    by_cases e : b = a
    · subst e; rw [h2]; exact fun z => by cases z
    · rw [h4, if_neg e] at hb; exact RepOs.there ds vs g h3 b (by omega)
  | .lst false ds, v, f, h, b, hb => by rw [h.2] at hb; omega
  | .obj false c ns ds, v, f, h, b, hb => by rw [h.2] at hb; omega
  | .non, v, f, h, b, hb => by rw [h.2] at hb; omega
  | .bl _, v, f, h, b, hb => by rw [h.2] at hb; omega
  | .int _, v, f, h, b, hb => by rw [h.2] at hb; omega
  | .str _, v, f, h, b, hb => by rw [h.2] at hb; omega
  | .ty _, v, f, h, b, hb => by rw [h.2] at hb; omega
  | .val _, v, f, h, b, hb => by rw [h.2] at hb; omega
  | .tpo ds, v, f, h, b, hb => by
    obtain ⟨a, vs, h1, h2, h3⟩ := h
    exact RepOs.there ds vs f h3 b hb
  | .dct true ks ds, v, f, h, b, hb => by
    obtain ⟨a, vs, g, h1, h2, h5, h3, h4⟩ := h
    by_cases e : b = a
    · subst e; rw [h2]; exact fun z => by cases z
    · rw [h4, if_neg e] at hb; exact RepOs.there ds vs g h3 b (by omega)
  | .dct false _ _, v, f, h, b, hb => by rw [h.2] at hb; omega
  | .tup _, v, f, h, b, hb => by rw [h.2] at hb; omega
  | .cst _, v, f, h, b, hb => by rw [h.2] at hb; omega
theorem RepOs.there : ∀ (ds : List D) (vs : List V) (f : Ct), RepOs K ca F H ds vs f → ∀ a, 0 < f a → H a ≠ none
  | [], _, f, h, b, hb => by rw [h.2] at hb; omega
  | d :: ds, _, f, h, b, hb => by
    obtain ⟨v, r, f1, f2, h1, h2, h3, h4⟩ := h
    rw [h4] at hb
    by_cases q : 0 < f1 b
    · exact RepO.there d v f1 h2 b q
    · exact RepOs.there ds r f2 h3 b (by omega)
end

mutual
theorem RepO.fz (e : Same F F') : ∀ (d : D) (v : V) (f : Ct), (∀ a, 0 < f a → F' a = H a) → RepO K ca F H d v f → Rep K ca F' (freeze d) v
  | .lst true ds, v, f, k, h => by
    obtain ⟨a, vs, g, h1, h2, h3, h4⟩ := h
    exact ⟨a, vs, h1, (k a (by rw [h4, if_pos rfl]; omega)).trans h2, RepOs.fz e ds vs g (fun b hb => k b (by rw [h4]; omega)) h3⟩
  | .obj true c ns ds, v, f, k, h => by
    obtain ⟨a, dx, fs, vs, g, h1, h2, h5, h6, h3, h4⟩ := h
    exact ⟨a, dx, fs, vs, h1, (k a (by rw [h4, if_pos rfl]; omega)).trans h2, h5, h6, RepOs.fz e ds vs g (fun b hb => k b (by rw [h4]; omega)) h3⟩
  | .lst false ds, v, f, k, h => Rep.mono e _ _ h.1
  | .obj false c ns ds, v, f, k, h => Rep.mono e _ _ h.1
  | .non, v, f, k, h => Rep.mono e _ _ h.1
  | .bl _, v, f, k, h => Rep.mono e _ _ h.1
  | .int _, v, f, k, h => Rep.mono e _ _ h.1
  | .str _, v, f, k, h => Rep.mono e _ _ h.1
  | .ty _, v, f, k, h => Rep.mono e _ _ h.1
  | .val _, v, f, k, h => Rep.mono e _ _ h.1
  | .tpo ds, v, f, k, h => by
    obtain ⟨a, vs, h1, h2, h3⟩ := h
    exact ⟨a, vs, h1, sqT_same e h2, RepOs.fz e ds vs f k h3⟩
  | .dct true ks ds, v, f, k, h => by
    obtain ⟨a, vs, g, h1, h2, h5, h3, h4⟩ := h
    exact ⟨a, vs, h1, (k a (by rw [h4, if_pos rfl]; omega)).trans h2, h5, RepOs.fz e ds vs g (fun b hb => k b (by rw [h4]; omega)) h3⟩
  | .dct false _ _, v, f, k, h => Rep.mono e _ _ h.1
  | .tup _, v, f, k, h => Rep.mono e _ _ h.1
  | .cst _, v, f, k, h => Rep.mono e _ _ h.1
theorem RepOs.fz (e : Same F F') : ∀ (ds : List D) (vs : List V) (f : Ct), (∀ a, 0 < f a → F' a = H a) → RepOs K ca F H ds vs f → RepL K ca F' (freezeL ds) vs
  | [], _, _, _, h => h.1
  | d :: ds, _, f, k, h => by
    obtain ⟨v, r, f1, f2, h1, h2, h3, h4⟩ := h
    exact ⟨v, r, h1, RepO.fz e d v f1 (fun b hb => k b (by rw [h4]; omega)) h2, RepOs.fz e ds r f2 (fun b hb => k b (by rw [h4]; omega)) h3⟩
end

theorem RepL.length : ∀ {ds : List D} {vs : List V}, RepL K ca F ds vs → vs.length = ds.length
  | [], _, h => by have h : _ = [] := h; rw [h]; rfl
  | _ :: _, _, ⟨v, r, h1, h2, h3⟩ => by rw [h1, List.length_cons, List.length_cons, h3.length]
theorem RepOs.length : ∀ {ds : List D} {vs : List V} {f : Ct}, RepOs K ca F H ds vs f → vs.length = ds.length
  | [], _, _, h => by rw [h.1]; rfl
  | _ :: _, _, _, ⟨v, r, _, _, h1, h2, h3, _⟩ => by rw [h1, List.length_cons, List.length_cons, h3.length]
theorem RepL.get : ∀ {ds : List D} {vs : List V} {i : Nat} {d : D}, RepL K ca F ds vs → ds[i]? = some d → ∃ v, vs[i]? = some v ∧ Rep K ca F d v
  | [], _, _, _, _, e => by simp at e
  | d :: _, _, 0, _, ⟨v, r, h1, h2, h3⟩, e => by simp at e; subst e; subst h1; exact ⟨v, rfl, h2⟩
  | _ :: _, _, i + 1, d, ⟨v, r, h1, h2, h3⟩, e => by subst h1; simpa using h3.get (i := i) (by simpa using e)
theorem RepOs.get : ∀ {ds : List D} {vs : List V} {f : Ct} {i : Nat} {d : D}, RepOs K ca F H ds vs f → ds[i]? = some d → ∃ v g, vs[i]? = some v ∧ RepO K ca F H d v g
  | [], _, _, _, _, _, e => by simp at e
  | d :: _, _, _, 0, _, ⟨v, r, f1, f2, h1, h2, h3, _⟩, e => by simp at e; subst e; subst h1; exact ⟨v, f1, rfl, h2⟩
  | _ :: _, _, _, i + 1, d, ⟨v, r, f1, f2, h1, h2, h3, _⟩, e => by subst h1; simpa using h3.get (i := i) (by simpa using e)
theorem RepOs.append : ∀ {ds es : List D} {vs us : List V} {f g : Ct}, RepOs K ca F H ds vs f → RepOs K ca F H es us g → RepOs K ca F H (ds ++ es) (vs ++ us) (fun b => f b + g b)
  | [], es, _, us, f, g, h, k => by
    obtain ⟨rfl, h2⟩ := h
    have e : (fun b => f b + g b) = g := funext fun b => by rw [h2]; omega
    rw [e]; exact k
  | _ :: _, _, _, _, f, g, ⟨v, r, f1, f2, h1, h2, h3, h4⟩, k => by
    subst h1
    exact ⟨v, _, f1, _, rfl, h2, h3.append k, fun b => by show f b + g b = f1 b + (f2 b + g b); rw [h4]; omega⟩
theorem RepOs.split : ∀ {ds es : List D} {ws : List V} {f : Ct}, RepOs K ca F H (ds ++ es) ws f → ∃ vs us g1 g2, ws = vs ++ us ∧ RepOs K ca F H ds vs g1 ∧ RepOs K ca F H es us g2 ∧ ∀ b, f b = g1 b + g2 b
  | [], es, ws, f, h => ⟨[], ws, fun _ => 0, f, rfl, ⟨rfl, fun _ => rfl⟩, h, fun b => by show f b = 0 + f b; omega⟩
  | _ :: _, _, _, f, ⟨v, r, f1, f2, h1, h2, h3, h4⟩ => by
    obtain ⟨vs, us, g1, g2, e, k1, k2, k3⟩ := RepOs.split h3
    subst h1; subst e
    exact ⟨v :: vs, us, fun b => f1 b + g1 b, g2, rfl, ⟨v, vs, f1, g1, rfl, h2, k1, fun _ => rfl⟩, k2, fun b => by show f b = (f1 b + g1 b) + g2 b; rw [h4, k3]; omega⟩
theorem RepOs.split' {ds es : List D} {vs us : List V} {f : Ct} (h : RepOs K ca F H (ds ++ es) (vs ++ us) f) (hl : vs.length = ds.length) : ∃ g1 g2, RepOs K ca F H ds vs g1 ∧ RepOs K ca F H es us g2 ∧ ∀ b, f b = g1 b + g2 b := by
  obtain ⟨vs', us', g1, g2, e, k1, k2, k3⟩ := h.split
  have hl' := k1.length
  obtain ⟨rfl, rfl⟩ := List.append_inj e (by omega)
  exact ⟨g1, g2, k1, k2, k3⟩
end

/-! ### the slots -/
section
variable (K : PySem.W.Frag) (ca : Str → Addr) (F H : Hp)
def Sl : Env → L2.St → Ct → Prop
  | [], σ, f => σ = [] ∧ ∀ b, f b = 0
  | none :: τ, σ, f => ∃ x r, σ = x :: r ∧ Sl τ r f
  | some d :: τ, σ, f => ∃ v r f1 f2, σ = some v :: r ∧ RepO K ca F H d v f1 ∧ Sl τ r f2 ∧ ∀ b, f b = f1 b + f2 b
end
section
variable {K : PySem.W.Frag} {ca : Str → Addr} {F F' H H' : Hp}
theorem Sl.mono (e : Same F F') : ∀ {τ : Env} {σ : L2.St} {f : Ct}, (∀ a, 0 < f a → H' a = H a) → Sl K ca F H τ σ f → Sl K ca F' H' τ σ f
  | [], _, _, _, h => h
  | none :: _, _, _, k, ⟨x, r, h1, h2⟩ => ⟨x, r, h1, Sl.mono e k h2⟩
  | some _ :: _, _, f, k, ⟨v, r, f1, f2, h1, h2, h3, h4⟩ => ⟨v, r, f1, f2, h1, RepO.mono e _ _ _ (fun b hb => k b (by rw [h4]; omega)) h2, Sl.mono e (fun b hb => k b (by rw [h4]; omega)) h3, h4⟩
theorem Sl.there : ∀ {τ : Env} {σ : L2.St} {f : Ct}, Sl K ca F H τ σ f → ∀ a, 0 < f a → H a ≠ none
  | [], _, _, h, b, hb => by rw [h.2] at hb; omega
  | none :: _, _, _, ⟨x, r, h1, h2⟩, b, hb => Sl.there h2 b hb
  | some _ :: _, _, f, ⟨v, r, f1, f2, h1, h2, h3, h4⟩, b, hb => by
    rw [h4] at hb
    by_cases q : 0 < f1 b
    · exact RepO.there _ v f1 h2 b q
    · exact Sl.there h3 b (by omega)
theorem Sl.length : ∀ {τ : Env} {σ : L2.St} {f : Ct}, Sl K ca F H τ σ f → σ.length = τ.length
  | [], _, _, h => by rw [h.1]; rfl
  | none :: _, _, _, ⟨x, r, h1, h2⟩ => by rw [h1, List.length_cons, List.length_cons, Sl.length h2]
  | some _ :: _, _, f, ⟨v, r, f1, f2, h1, h2, h3, h4⟩ => by rw [h1, List.length_cons, List.length_cons, Sl.length h3]
theorem Sl.get : ∀ {τ : Env} {σ : L2.St} {f : Ct} {i : Nat} {d : D}, Sl K ca F H τ σ f → τ[i]? = some (some d) → ∃ v g, σ[i]? = some (some v) ∧ RepO K ca F H d v g
  | [], _, _, _, _, _, e => by simp at e
  | none :: _, _, _, 0, _, _, e => by simp at e
  | none :: _, _, _, i + 1, _, ⟨x, r, h1, h2⟩, e => by subst h1; simpa using Sl.get (i := i) h2 (by simpa using e)
  | some _ :: _, _, _, 0, _, ⟨v, r, f1, f2, h1, h2, h3, h4⟩, e => by simp at e; subst e; subst h1; exact ⟨v, f1, rfl, h2⟩
  | some _ :: _, _, _, i + 1, _, ⟨v, r, f1, f2, h1, h2, h3, h4⟩, e => by subst h1; simpa using Sl.get (i := i) h3 (by simpa using e)
/-- a slot gives away what it has -/
theorem Sl.take : ∀ {τ : Env} {σ : L2.St} {f : Ct} {i : Nat} {d : D}, Sl K ca F H τ σ f → τ[i]? = some (some d) → ∃ v g1 g2, σ[i]? = some (some v) ∧ RepO K ca F H d v g1 ∧ Sl K ca F H (τ.set i none) σ g2 ∧ ∀ b, f b = g1 b + g2 b
  | [], _, _, _, _, _, e => by simp at e
  | none :: _, _, _, 0, _, _, e => by simp at e
  | none :: _, _, _, i + 1, _, ⟨x, r, h1, h2⟩, e => by
    subst h1
    obtain ⟨v, g1, g2, k1, k2, k3, k4⟩ := Sl.take (i := i) h2 (by simpa using e)
    exact ⟨v, g1, g2, by simpa using k1, k2, ⟨x, r, rfl, k3⟩, k4⟩
  | some _ :: _, _, _, 0, _, ⟨v, r, f1, f2, h1, h2, h3, h4⟩, e => by simp at e; subst e; subst h1; exact ⟨v, f1, f2, rfl, h2, ⟨_, r, rfl, h3⟩, h4⟩
  | some _ :: _, _, f, i + 1, _, ⟨v, r, f1, f2, h1, h2, h3, h4⟩, e => by
    subst h1
    obtain ⟨v', g1, g2, k1, k2, k3, k4⟩ := Sl.take (i := i) h3 (by simpa using e)
    exact ⟨v', g1, fun b => f1 b + g2 b, by simpa using k1, k2, ⟨v, r, f1, g2, rfl, h2, k3, fun _ => rfl⟩, fun b => by show f b = g1 b + (f1 b + g2 b); rw [h4, k4]; omega⟩
/-- a slot takes a value -/
theorem Sl.put : ∀ {τ : Env} {σ : L2.St} {f : Ct} {i : Nat} {d : D} {v : V} {g : Ct}, Sl K ca F H τ σ f → i < τ.length → RepO K ca F H d v g → ∃ f2, Sl K ca F H (τ.set i (some d)) (σ.set i (some v)) f2 ∧ ∀ b, f2 b ≤ f b + g b
  | [], _, _, _, _, _, _, _, e, _ => by simp at e
  | none :: _, _, f, 0, _, v, g, ⟨x, r, h1, h2⟩, e, hv => by subst h1; exact ⟨fun b => g b + f b, ⟨v, r, g, f, rfl, hv, h2, fun _ => rfl⟩, fun b => by show g b + f b ≤ f b + g b; omega⟩
  | none :: _, _, f, i + 1, _, v, g, ⟨x, r, h1, h2⟩, e, hv => by
    subst h1
    obtain ⟨f2, k1, k2⟩ := Sl.put (i := i) h2 (by simpa using e) hv
    exact ⟨f2, ⟨x, _, rfl, k1⟩, k2⟩
  | some _ :: _, _, f, 0, _, v, g, ⟨w, r, f1, f2, h1, h2, h3, h4⟩, e, hv => by subst h1; exact ⟨fun b => g b + f2 b, ⟨v, r, g, f2, rfl, hv, h3, fun _ => rfl⟩, fun b => by show g b + f2 b ≤ f b + g b; rw [h4]; omega⟩
  | some _ :: _, _, f, i + 1, _, v, g, ⟨w, r, f1, f2, h1, h2, h3, h4⟩, e, hv => by
    subst h1
    obtain ⟨f3, k1, k2⟩ := Sl.put (i := i) h3 (by simpa using e) hv
    exact ⟨fun b => f1 b + f3 b, ⟨w, _, f1, f3, rfl, h2, k1, fun _ => rfl⟩, fun b => by show f1 b + f3 b ≤ f b + g b; have := k2 b; rw [h4]; omega⟩
/-- a slot forgets what it has -/
theorem Sl.drop : ∀ {τ : Env} {σ : L2.St} {f : Ct} {i : Nat}, Sl K ca F H τ σ f → ∃ f2, Sl K ca F H (τ.set i none) σ f2 ∧ ∀ b, f2 b ≤ f b := fun {τ σ f i} h => by
  cases e : τ[i]? with
  | none => rw [List.set_eq_of_length_le (by simpa using e)]; exact ⟨f, h, fun _ => Nat.le_refl _⟩
  | some x =>
    cases x with
    | none =>
      have : τ.set i none = τ := by
        apply List.ext_getElem?
        intro j
        rw [List.getElem?_set]
        split
        · rename_i q; subst q; split
          · exact e.symm
          · rename_i hl; rw [List.getElem?_eq_none (by omega)]
        · rfl
      rw [this]; exact ⟨f, h, fun _ => Nat.le_refl _⟩
    | some d =>
      obtain ⟨v, g1, g2, _, _, k, q⟩ := h.take e
      exact ⟨g2, k, fun b => by rw [q]; omega⟩
end

/-! ### the state -/
/-- what is fixed while a def's body runs: the classes' places, the unchanging part and the rest of the heap at its entry, the parameters that are handed to be changed -/
structure Bx where
  ca : Str → Addr
  F0 : Hp
  R : Hp
  io : List (Nat × V)
structure Wd (B : Bx) (F H : Hp) (f : Ct) : Prop where
  nd : ∀ a, f a ≤ 1
  dF : ∀ a, 0 < f a → F a = none
  dR : ∀ a, 0 < f a → B.R a = none
  sF : Same F H
  sR : Same B.R H
  s0 : Same B.F0 F
  fr : ∀ a, F a ≠ none → B.F0 a ≠ none ∨ B.R a = none
def IoOk (B : Bx) (σ : L2.St) : Prop := ∀ p ∈ B.io, σ[p.1]? = some (some p.2)
def StT (K : PySem.W.Frag) (B : Bx) (F H : Hp) (σ : L2.St) (τ : Env) (vs : List V) (ds : List D) : Prop :=
  ∃ f1 f2, Sl K B.ca F H τ σ f1 ∧ RepOs K B.ca F H ds vs f2 ∧ Wd B F H (fun b => f1 b + f2 b) ∧ IoOk B σ

theorem Wd.less {B : Bx} {F H : Hp} {f g : Ct} (w : Wd B F H f) (h : ∀ b, g b ≤ f b) : Wd B F H g :=
  ⟨fun a => Nat.le_trans (h a) (w.nd a), fun a q => w.dF a (Nat.lt_of_lt_of_le q (h a)), fun a q => w.dR a (Nat.lt_of_lt_of_le q (h a)), w.sF, w.sR, w.s0, w.fr⟩

theorem same_upd {H : Hp} {p : Addr} {o : HO} (h : H p = none) : Same H (upd H p o) := fun b x e => by
  rw [upd_ne (ne_of_none e h)]
  exact e
/-- something new, unowned, that never changes -/
theorem Wd.frozen {B : Bx} {F H : Hp} {f : Ct} {p : Addr} {o : HO} (w : Wd B F H f) (hp : H p = none) : Wd B (upd F p o) (upd H p o) (fun a => if a = p then 0 else f a) := by
  have hF : F p = none := by
    cases e : F p with
    | none => rfl
    | some x => rw [w.sF _ _ e] at hp; cases hp
  have hR : B.R p = none := by
    cases e : B.R p with
    | none => rfl
    | some x => rw [w.sR _ _ e] at hp; cases hp
  refine ⟨fun a => ?_, fun a q => ?_, fun a q => ?_, fun b x e => ?_, fun b x e => ?_, fun b x e => ?_, fun a q => ?_⟩
  · show (if a = p then 0 else f a) ≤ 1
    split
    · omega
    · exact w.nd a
  · have q : 0 < (if a = p then 0 else f a) := q
    split at q
    · omega
    · rw [upd_ne (by assumption)]; exact w.dF a q
  · have q : 0 < (if a = p then 0 else f a) := q
    split at q
    · omega
    · exact w.dR a q
  · by_cases h : b = p
    · subst h; rw [upd_same] at e ⊢; exact e
    · rw [upd_ne h] at e ⊢; exact w.sF b x e
  · rw [upd_ne (ne_of_none (w.sR b x e) hp)]; exact w.sR b x e
  · rw [upd_ne (ne_of_none (w.s0 b x e) hF)]; exact w.s0 b x e
  · by_cases h : a = p
    · subst h; exact .inr hR
    · rw [upd_ne h] at q; exact w.fr a q
/-- something new that is owned -/
theorem Wd.owned {B : Bx} {F H : Hp} {f : Ct} {p : Addr} {o : HO} (w : Wd B F H f) (hp : H p = none) (hf : f p = 0) : Wd B F (upd H p o) (fun a => (if a = p then 1 else 0) + f a) := by
  have hF : F p = none := by
    cases e : F p with
    | none => rfl
    | some x => rw [w.sF _ _ e] at hp; cases hp
  have hR : B.R p = none := by
    cases e : B.R p with
    | none => rfl
    | some x => rw [w.sR _ _ e] at hp; cases hp
  refine ⟨fun a => ?_, fun a q => ?_, fun a q => ?_, fun b x e => ?_, fun b x e => ?_, w.s0, w.fr⟩
  · show (if a = p then 1 else 0) + f a ≤ 1
    split
    · rename_i h; rw [h, hf]; omega
    · have := w.nd a; omega
  · have q : 0 < (if a = p then 1 else 0) + f a := q
    split at q
    · rename_i h; rw [h]; exact hF
    · exact w.dF a (by omega)
  · have q : 0 < (if a = p then 1 else 0) + f a := q
    split at q
    · rename_i h; rw [h]; exact hR
    · exact w.dR a (by omega)
  · rw [upd_ne (ne_of_none (w.sF b x e) hp)]; exact w.sF b x e
  · rw [upd_ne (ne_of_none (w.sR b x e) hp)]; exact w.sR b x e

/-- what is owned by es is given up: the unchanging part grows by it -/
def grow (F H : Hp) (f : Ct) : Hp := fun a => if 0 < f a then H a else F a
theorem same_grow {B : Bx} {F H : Hp} {f g : Ct} (w : Wd B F H f) (h : ∀ b, g b ≤ f b) : Same F (grow F H g) := fun b x e => by
  unfold grow
  split
  · rename_i q; rw [w.dF b (Nat.lt_of_lt_of_le q (h b))] at e; cases e
  · exact e
theorem Wd.give {B : Bx} {F H : Hp} {f g r : Ct} (w : Wd B F H f) (h : ∀ b, f b = g b + r b) : Wd B (grow F H g) H r := by
  refine ⟨fun a => by have := w.nd a; have := h a; omega, fun a q => ?_, fun a q => w.dR a (by rw [h]; omega), fun b x e => ?_, w.sR, fun b x e => (same_grow w fun b => by rw [h]; omega) b x (w.s0 b x e), fun a q => ?_⟩
  · unfold grow
    have := w.nd a; have := h a
    rw [if_neg (by omega)]
    exact w.dF a (by omega)
  · unfold grow at e
    split at e
    · exact e
    · exact w.sF b x e
  · unfold grow at q
    split at q
    · exact .inr (w.dR a (by rw [h]; omega))
    · exact w.fr a q

section
variable {K : PySem.W.Frag} {B : Bx} {F H : Hp} {σ : L2.St} {τ : Env} {vs us : List V} {ds es : List D} {v : V} {d : D}
theorem StT.push (s : StT K B F H σ τ vs ds) (h : Rep K B.ca F d v) : StT K B F H σ τ (v :: vs) (d :: ds) := by
  obtain ⟨f1, f2, a, b, w, io⟩ := s
  exact ⟨f1, f2, a, ⟨v, vs, _, f2, rfl, h.o, b, fun _ => by omega⟩, w, io⟩
theorem StT.pop (s : StT K B F H σ τ (v :: vs) (d :: ds)) : StT K B F H σ τ vs ds := by
  obtain ⟨f1, f2, a, ⟨_, _, g1, g2, e, _, b, q⟩, w, io⟩ := s
  cases e
  exact ⟨f1, g2, a, b, w.less fun b => by show f1 b + g2 b ≤ f1 b + f2 b; rw [q]; omega, io⟩
theorem StT.pops (s : StT K B F H σ τ (us ++ vs) (es ++ ds)) (hl : us.length = es.length) : StT K B F H σ τ vs ds := by
  obtain ⟨f1, f2, a, b, w, io⟩ := s
  obtain ⟨g1, g2, _, b, q⟩ := b.split' hl
  exact ⟨f1, g2, a, b, w.less fun b => by show f1 b + g2 b ≤ f1 b + f2 b; rw [q]; omega, io⟩
theorem StT.top (s : StT K B F H σ τ (v :: vs) (d :: ds)) : ∃ f, RepO K B.ca F H d v f := by
  obtain ⟨f1, f2, a, ⟨_, _, g1, g2, e, h, b, q⟩, w, io⟩ := s
  cases e
  exact ⟨_, h⟩
theorem StT.tops (s : StT K B F H σ τ (us ++ vs) (es ++ ds)) (hl : us.length = es.length) : ∃ f, RepOs K B.ca F H es us f := by
  obtain ⟨f1, f2, a, b, w, io⟩ := s
  obtain ⟨g1, g2, h, b, q⟩ := b.split' hl
  exact ⟨_, h⟩
theorem StT.topF (s : StT K B F H σ τ (v :: vs) (d :: ds)) (h : isFz d = true) : Rep K B.ca F d v := by
  obtain ⟨f, q⟩ := s.top
  exact ((repO_fz h).mp q).1
/-- the items on top change places with the one below -/
theorem StT.swap (s : StT K B F H σ τ (us ++ v :: vs) (es ++ d :: ds)) (hl : us.length = es.length) : StT K B F H σ τ (v :: us ++ vs) (d :: es ++ ds) := by
  obtain ⟨f1, f2, a, b, w, io⟩ := s
  obtain ⟨g1, g2, b1, ⟨_, _, g3, g4, e, b2, b3, q2⟩, q⟩ := b.split' hl
  cases e
  exact ⟨f1, f2, a, ⟨v, us ++ vs, g3, _, rfl, b2, b1.append b3, fun b => by rw [q, q2]; omega⟩, w, io⟩
theorem StT.same (s : StT K B F H σ τ vs ds) : Same F H := by
  obtain ⟨f1, f2, a, b, w, io⟩ := s
  exact w.sF
theorem StT.get {i : Nat} (s : StT K B F H σ τ vs ds) (e : τ[i]? = some (some d)) : ∃ v f, σ[i]? = some (some v) ∧ RepO K B.ca F H d v f := by
  obtain ⟨f1, f2, a, b, w, io⟩ := s
  exact a.get e
theorem StT.take {i : Nat} (s : StT K B F H σ τ vs ds) (e : τ[i]? = some (some d)) : ∃ v, σ[i]? = some (some v) ∧ StT K B F H σ (τ.set i none) (v :: vs) (d :: ds) := by
  obtain ⟨f1, f2, a, b, w, io⟩ := s
  obtain ⟨v, g1, g2, e1, h1, h2, q⟩ := a.take e
  refine ⟨v, e1, g2, fun b => g1 b + f2 b, h2, ⟨v, vs, g1, f2, rfl, h1, b, fun _ => rfl⟩, ?_, io⟩
  have e2 : (fun b => g2 b + (g1 b + f2 b)) = fun b => f1 b + f2 b := funext fun b => by rw [q]; omega
  rw [e2]; exact w
/-- free: is slot i none of the parameters that are handed to be changed -/
def ioFree (B : Bx) (i : Nat) : Prop := ∀ p ∈ B.io, p.1 ≠ i
theorem StT.put {i : Nat} (s : StT K B F H σ τ (v :: vs) (d :: ds)) (hi : i < τ.length) (hf : ioFree B i) : StT K B F H (σ.set i (some v)) (τ.set i (some d)) vs ds := by
  obtain ⟨f1, f2, a, ⟨_, _, g1, g2, e, h, b, q⟩, w, io⟩ := s
  cases e
  obtain ⟨f3, k1, k2⟩ := a.put hi h
  refine ⟨f3, g2, k1, b, w.less fun b => by show f3 b + g2 b ≤ f1 b + f2 b; have := k2 b; rw [q]; omega, fun p hp => ?_⟩
  rw [List.getElem?_set_ne (Ne.symm (hf p hp))]
  exact io p hp
theorem StT.putBack {i : Nat} (s : StT K B F H σ τ (v :: vs) (d :: ds)) (hi : i < τ.length) (hv : σ[i]? = some (some v)) : StT K B F H σ (τ.set i (some d)) vs ds := by
  obtain ⟨f1, f2, a, ⟨_, _, g1, g2, e, h, b, q⟩, w, io⟩ := s
  cases e
  obtain ⟨f3, k1, k2⟩ := a.put hi h
  have e1 : σ.set i (some v) = σ := by
    apply List.ext_getElem?
    intro j
    rw [List.getElem?_set]
    split
    · rename_i q; subst q; split
      · exact hv.symm
      · rename_i hl; rw [List.getElem?_eq_none (by omega)]
    · rfl
  rw [e1] at k1
  exact ⟨f3, g2, k1, b, w.less fun b => by show f3 b + g2 b ≤ f1 b + f2 b; have := k2 b; rw [q]; omega, io⟩
theorem StT.forget {i : Nat} (s : StT K B F H σ τ vs ds) : StT K B F H σ (τ.set i none) vs ds := by
  obtain ⟨f1, f2, a, b, w, io⟩ := s
  obtain ⟨g, k, q⟩ := a.drop (i := i)
  exact ⟨g, f2, k, b, w.less fun b => by show g b + f2 b ≤ f1 b + f2 b; have := q b; omega, io⟩
/-- the items on top are given up to the unchanging part -/
theorem StT.freeze (s : StT K B F H σ τ (us ++ vs) (es ++ ds)) (hl : us.length = es.length) : ∃ F', Same F F' ∧ RepL K B.ca F' (freezeL es) us ∧ StT K B F' H σ τ vs ds := by
  obtain ⟨f1, f2, a, b, w, io⟩ := s
  obtain ⟨g1, g2, b1, b2, q⟩ := b.split' hl
  have le : ∀ b, g1 b ≤ f1 b + f2 b := fun b => by rw [q]; omega
  have sm : Same F (grow F H g1) := same_grow w le
  refine ⟨grow F H g1, sm, RepOs.fz sm _ _ _ (fun a h => by unfold grow; rw [if_pos h]) b1, f1, g2, a.mono sm fun _ _ => rfl, RepOs.mono sm _ _ _ (fun _ _ => rfl) b2, ?_, io⟩
  exact w.give (g := g1) (r := fun b => f1 b + g2 b) fun b => by show f1 b + f2 b = g1 b + (f1 b + g2 b); rw [q]; omega
theorem StT.new (s : StT K B F H σ τ vs ds) {p : Addr} {o : HO} (hp : H p = none) : StT K B (upd F p o) (upd H p o) σ τ vs ds ∧ Same F (upd F p o) := by
  obtain ⟨f1, f2, a, b, w, io⟩ := s
  have hF : F p = none := by
    cases e : F p with
    | none => rfl
    | some x => rw [w.sF _ _ e] at hp; cases hp
  have sm : Same F (upd F p o) := Bn.same_upd hF
  have k1 : ∀ x, 0 < f1 x → upd H p o x = H x := fun x hx => upd_ne fun e => a.there x hx (e ▸ hp)
  have k2 : ∀ x, 0 < f2 x → upd H p o x = H x := fun x hx => upd_ne fun e => b.there _ _ _ x hx (e ▸ hp)
  refine ⟨⟨f1, f2, a.mono sm k1, RepOs.mono sm _ _ _ k2 b, (w.frozen hp).less fun x => ?_, io⟩, sm⟩
  show f1 x + f2 x ≤ if x = p then 0 else f1 x + f2 x
  split
  · rename_i e
    have h1 : ¬ 0 < f1 x := fun h => a.there x h (e ▸ hp)
    have h2 : ¬ 0 < f2 x := fun h => b.there _ _ _ x h (e ▸ hp)
    omega
  · omega
theorem StT.newTup (s : StT K B F H σ τ vs ds) {p : Addr} (hp : H p = none) (h : RepL K B.ca F es us) : StT K B (upd F p (.tup us)) (upd H p (.tup us)) σ τ (.ref p :: vs) (.tup es :: ds) := by
  obtain ⟨s', sm⟩ := s.new (o := .tup us) hp
  exact s'.push ⟨p, us, rfl, .inl (.inl upd_same), RepL.mono sm _ _ h⟩
theorem StT.newLst (s : StT K B F H σ τ (us ++ vs) (es ++ ds)) (hl : us.length = es.length) {p : Addr} (hp : H p = none) : StT K B F (upd H p (.lst us)) σ τ (.ref p :: vs) (.lst true es :: ds) := by
  obtain ⟨f1, f2, a, b, w, io⟩ := s
  obtain ⟨g1, g2, b1, b2, q⟩ := b.split' hl
  have k1 : ∀ x, 0 < f1 x → upd H p (.lst us) x = H x := fun x hx => upd_ne fun e => a.there x hx (e ▸ hp)
  have k2 : ∀ x, 0 < g1 x → upd H p (.lst us) x = H x := fun x hx => upd_ne fun e => b1.there _ _ _ x hx (e ▸ hp)
  have k3 : ∀ x, 0 < g2 x → upd H p (.lst us) x = H x := fun x hx => upd_ne fun e => b2.there _ _ _ x hx (e ▸ hp)
  have z : f1 p + f2 p = 0 := by
    have h1 : ¬ 0 < f1 p := fun h => a.there p h hp
    have h2 : ¬ 0 < f2 p := fun h => b.there _ _ _ p h hp
    omega
  refine ⟨f1, fun b => ((if b = p then 1 else 0) + g1 b) + g2 b, a.mono (Same.refl _) k1, ⟨.ref p, vs, fun b => (if b = p then 1 else 0) + g1 b, g2, rfl, ⟨p, us, g1, rfl, upd_same, RepOs.mono (Same.refl _) _ _ _ k2 b1, fun _ => rfl⟩, RepOs.mono (Same.refl _) _ _ _ k3 b2, fun _ => rfl⟩, ?_, io⟩
  have e : (fun b => f1 b + (((if b = p then 1 else 0) + g1 b) + g2 b)) = fun b => (if b = p then 1 else 0) + (f1 b + f2 b) := funext fun b => by rw [q]; omega
  rw [e]
  exact w.owned hp z
/-- the list on top is changed; its new items are made of its old ones and of the items us below it -/
theorem StT.change {a : Addr} {xs ys : List V} {es' : List D} (s : StT K B F H σ τ (.ref a :: (us ++ vs)) (.lst true es :: (ds ++ es'))) (hl : us.length = ds.length) (hx : H a = some (.lst xs)) {es2 : List D}
    (k : ∀ g1 g2, RepOs K B.ca F H es xs g1 → RepOs K B.ca F H ds us g2 → ∃ g, RepOs K B.ca F H es2 ys g ∧ ∀ b, g b ≤ g1 b + g2 b) :
    StT K B F (upd H a (.lst ys)) σ τ (.ref a :: vs) (.lst true es2 :: es') := by
  obtain ⟨f1, f2, A, ⟨_, _, g1, g2, e, h, b, q⟩, w, io⟩ := s
  cases e
  obtain ⟨a', xs', g3, e', hx', h3, q3⟩ := h
  cases e'
  rw [hx] at hx'; cases hx'
  obtain ⟨g4, g5, b1, b2, q4⟩ := b.split' hl
  obtain ⟨g, hg, hle⟩ := k g3 g4 h3 b1
  have one := w.nd a
  have tot : ∀ b, f1 b + f2 b = f1 b + ((if b = a then 1 else 0) + g3 b + (g4 b + g5 b)) := fun b => by rw [q, q3, q4]
  have za : f1 a = 0 ∧ g3 a = 0 ∧ g4 a = 0 ∧ g5 a = 0 := by
    have := tot a
    rw [if_pos rfl] at this
    omega
  have off : ∀ {φ : Ct}, φ a = 0 → ∀ x, 0 < φ x → upd H a (.lst ys) x = H x := fun {φ} hz x hx => upd_ne fun e => by rw [e, hz] at hx; omega
  have zg : g a = 0 := by have := hle a; omega
  refine ⟨f1, fun b => ((if b = a then 1 else 0) + g b) + g5 b, A.mono (Same.refl _) (off za.1), ⟨.ref a, vs, fun b => (if b = a then 1 else 0) + g b, g5, rfl, ⟨a, ys, g, rfl, upd_same, RepOs.mono (Same.refl _) _ _ _ (off zg) hg, fun _ => rfl⟩,
    RepOs.mono (Same.refl _) _ _ _ (off za.2.2.2) b2, fun _ => rfl⟩, ?_, io⟩
  have w2 : Wd B F H (fun b => f1 b + (((if b = a then 1 else 0) + g b) + g5 b)) := w.less fun b => by
    show f1 b + (((if b = a then 1 else 0) + g b) + g5 b) ≤ f1 b + f2 b
    have := tot b; have := hle b; omega
  have fa : F a = none := w.dF a (by have := tot a; rw [if_pos rfl] at this; show 0 < f1 a + f2 a; omega)
  have ra : B.R a = none := w.dR a (by have := tot a; rw [if_pos rfl] at this; show 0 < f1 a + f2 a; omega)
  exact ⟨w2.nd, w2.dF, w2.dR, fun b x e => by rw [upd_ne (ne_of_none e fa)]; exact w.sF b x e, fun b x e => by rw [upd_ne (ne_of_none e ra)]; exact w.sR b x e, w.s0, w.fr⟩
/-- behind a call that left all as it was, and made something -/
theorem StT.called {F' H' : Hp} {g : Ct} (s : StT K B F H σ τ vs ds) (h1 : Same F F') (h2 : Same F' H') (h3 : Same H H') (hv : RepO K B.ca F' H' d v g) (h4 : ∀ a, g a ≤ 1) (h5 : ∀ a, 0 < g a → F' a = none ∧ H a = none)
    (h6 : ∀ a, F' a ≠ none → F a ≠ none ∨ H a = none) : StT K B F' H' σ τ (v :: vs) (d :: ds) := by
  obtain ⟨f1, f2, a, b, w, io⟩ := s
  have k : ∀ x, H x ≠ none → H' x = H x := fun x hx => by
    cases e : H x with
    | none => exact absurd e hx
    | some o => exact h3 _ _ e
  have t1 : ∀ x, 0 < f1 x → H x ≠ none := a.there
  have t2 : ∀ x, 0 < f2 x → H x ≠ none := b.there _ _ _
  refine ⟨f1, fun b => g b + f2 b, a.mono h1 fun x hx => k x (t1 x hx), ⟨v, vs, g, f2, rfl, hv, RepOs.mono h1 _ _ _ (fun x hx => k x (t2 x hx)) b, fun _ => rfl⟩, ?_, io⟩
  have split : ∀ x, 0 < f1 x + (g x + f2 x) → (0 < g x ∧ f1 x = 0 ∧ f2 x = 0) ∨ (g x = 0 ∧ 0 < f1 x + f2 x) := fun x hx => by
    by_cases q : 0 < g x
    · have hn := (h5 x q).2
      have : ¬ 0 < f1 x := fun h => t1 x h hn
      have : ¬ 0 < f2 x := fun h => t2 x h hn
      exact .inl ⟨q, by omega, by omega⟩
    · exact .inr ⟨by omega, by omega⟩
  have old : ∀ x, 0 < f1 x + f2 x → H x ≠ none := fun x hx => by
    by_cases q : 0 < f1 x
    · exact t1 x q
    · exact t2 x (by omega)
  refine ⟨fun x => ?_, fun x hx => ?_, fun x hx => ?_, h2, w.sR.trans h3, w.s0.trans h1, fun x hx => ?_⟩
  · show f1 x + (g x + f2 x) ≤ 1
    by_cases q : 0 < f1 x + (g x + f2 x)
    · rcases split x q with ⟨_, e1, e2⟩ | ⟨e1, _⟩
      · have := h4 x; omega
      · have := w.nd x; omega
    · omega
  · rcases split x hx with ⟨e0, _⟩ | ⟨_, e0⟩
    · exact (h5 x e0).1
    · have hF := w.dF x e0
      cases e : F' x with
      | none => rfl
      | some o =>
        rcases h6 x (by rw [e]; exact fun z => by cases z) with z | z
        · exact absurd hF z
        · exact absurd z (old x e0)
  · rcases split x hx with ⟨e0, _⟩ | ⟨_, e0⟩
    · cases e : B.R x with
      | none => rfl
      | some o => have z := (h5 x e0).2; rw [w.sR _ _ e] at z; cases z
    · exact w.dR x e0
  · rcases h6 x hx with z | z
    · exact w.fr x z
    · refine .inr ?_
      cases e : B.R x with
      | none => rfl
      | some o => rw [w.sR _ _ e] at z; cases z
/-- the heap has grown -/
theorem StT.grown {H' : Hp} (s : StT K B F H σ τ vs ds) (h : Same H H') : StT K B F H' σ τ vs ds := by
  obtain ⟨f1, f2, a, b, w, io⟩ := s
  have k : ∀ x, H x ≠ none → H' x = H x := fun x hx => by
    cases e : H x with
    | none => exact absurd e hx
    | some o => exact h _ _ e
  exact ⟨f1, f2, a.mono (Same.refl _) fun x hx => k x (a.there x hx), RepOs.mono (Same.refl _) _ _ _ (fun x hx => k x (b.there _ _ _ x hx)) b, ⟨w.nd, w.dF, w.dR, w.sF.trans h, w.sR.trans h, w.s0, w.fr⟩, io⟩
end
end Bn

/-! Readings by functions of trees. -/
namespace Bn
open PySem PySem.Spec PyProof.Rows L2

inductive R (α : Type) where
  | ok (a : α) (τ : Env) | ex (c : Str) (τ : Env) | bad
inductive SR where
  | nx (τ : Env) | rt (d : D) (τ : Env) | bk (τ : Env) | ct (τ : Env) | ex (c : Str) (τ : Env) | bad
inductive CR where
  | ok (d : D) | ex (c : Str) | bad
abbrev ME := Env → R D
abbrev MZ := Env → Option D
abbrev MT := Env → R Bool
abbrev MA := Env → R (List D)
abbrev MS := Env → SR

def R.bind {α β : Type} : R α → (α → Env → R β) → R β
  | .ok a τ, k => k a τ
  | .ex c τ, _ => .ex c τ
  | .bad, _ => .bad
def post {α : Type} (y : α → Env → Prop) (x : Str → Env → Prop) : R α → Prop
  | .ok a τ => y a τ
  | .ex c τ => x c τ
  | .bad => False
theorem post_bind {α β : Type} {y : β → Env → Prop} {x : Str → Env → Prop} {r : R α} {k : α → Env → R β} (h : post y x (r.bind k)) : post (fun a τ => post y x (k a τ)) x r := by
  cases r <;> exact h
theorem post_imp {α : Type} {y y' : α → Env → Prop} {x x' : Str → Env → Prop} {r : R α} (h : post y x r) (hy : ∀ a τ, y a τ → y' a τ) (hx : ∀ c τ, x c τ → x' c τ) : post y' x' r := by
  cases r with
  | ok a τ => exact hy _ _ h
  | ex c τ => exact hx _ _ h
  | bad => exact h

section
variable {X : Cx}
theorem PE.imp {e : Expr} {t t' : TE} (h : PE X e t) (k : ∀ σ H Q, t' σ H Q → t σ H Q) : PE X e t' := ⟨fun p s σ H Q I q => h.run p s σ H Q I (k _ _ _ q)⟩
theorem PT.imp {e : Expr} {t t' : TT} (h : PT X e t) (k : ∀ σ H Q, t' σ H Q → t σ H Q) : PT X e t' := ⟨fun p s σ H Q I q => h.run p s σ H Q I (k _ _ _ q)⟩
theorem PW.imp {e : Expr} {t t' : TT} (h : PW X e t) (k : ∀ σ H Q, t' σ H Q → t σ H Q) : PW X e t' := ⟨fun w p s σ H Q I q => h.run w p s σ H Q I (k _ _ _ q)⟩
theorem PA.imp {e : List Expr} {t t' : TA} (h : PA X e t) (k : ∀ σ H Q, t' σ H Q → t σ H Q) : PA X e t' := ⟨fun z p s σ H Q I q => h.run z p s σ H Q I (k _ _ _ q)⟩
theorem PS.imp {e : Stmt} {t t' : TS} (h : PS X e t) (k : ∀ D σ H, t' D σ H → t D σ H) : PS X e t' := ⟨fun p s σ H D I q => h.run p s σ H D I (k _ _ _ q)⟩
theorem PSs.imp {e : List Stmt} {t t' : TS} (h : PSs X e t) (k : ∀ D σ H, t' D σ H → t D σ H) : PSs X e t' := ⟨fun p s σ H D I q => h.run p s σ H D I (k _ _ _ q)⟩
theorem PG.imp {e : Expr} {t t' : TG} (h : PG X e t) (k : ∀ v σ H Q, t' v σ H Q → t v σ H Q) : PG X e t' := ⟨fun p s σ H v u Q I r q => h.run p s σ H v u Q I r (k _ _ _ _ q)⟩
theorem PGs.imp {e : List Expr} {t t' : TGs} (h : PGs X e t) (k : ∀ v σ H Q, t' v σ H Q → t v σ H Q) : PGs X e t' := ⟨fun p s σ H v u Q I r q => h.run p s σ H v u Q I r (k _ _ _ _ q)⟩
end

section
variable (K : PySem.W.Frag) (B : Bx) (W : WX)
def exW (σ : L2.St) (vs : List V) (ds : List D) : Str → Env → Prop := fun c τ' => ∀ F' H', StT K B F' H' σ τ' vs ds → W (.ref (B.ca c)) none σ H'
def rdE (m : ME) : TE := fun σ H Q => ∃ F τ vs ds, StT K B F H σ τ vs ds ∧ post (fun d τ' => ∀ v F' H', StT K B F' H' σ τ' (v :: vs) (d :: ds) → Q v H') (exW K B W σ vs ds) (m τ)
def rdA (m : MA) : TA := fun σ H Q => ∃ F τ vs ds, StT K B F H σ τ vs ds ∧ post (fun es τ' => ∀ us F' H', us.length = es.length → StT K B F' H' σ τ' (us ++ vs) (es ++ ds) → Q us H') (exW K B W σ vs ds) (m τ)
def rdT (m : MT) : TT := fun σ H Q => ∃ F τ vs ds, StT K B F H σ τ vs ds ∧ post (fun b τ' => ∀ F' H', StT K B F' H' σ τ' vs ds → Q b H') (exW K B W σ vs ds) (m τ)
def rdZ (m : MZ) : TE := fun σ H Q => ∃ F τ vs ds, StT K B F H σ τ vs ds ∧ ∃ d, m τ = some d ∧ ∀ v f, RepO K B.ca F H d v f → Q v H
def postS (vs : List V) (ds : List D) (D : Ends) : SR → Prop
  | .nx τ => ∀ σ F H, StT K B F H σ τ vs ds → D.nx σ H
  | .rt d τ => ∀ v σ F H, StT K B F H σ τ (v :: vs) (d :: ds) → D.rt v H
  | .bk τ => ∀ σ F H, StT K B F H σ τ vs ds → D.bk σ H
  | .ct τ => ∀ σ F H, StT K B F H σ τ vs ds → D.ct σ H
  | .ex c τ => ∀ σ F H, StT K B F H σ τ vs ds → W (.ref (B.ca c)) none σ H
  | .bad => False
def rdS (m : MS) : TS := fun D σ H => ∃ F τ vs ds, StT K B F H σ τ vs ds ∧ postS K B W vs ds D (m τ)
/-- a target; sl: the slots that it sets -/
def rdG (sl : List Nat) (g : D → Env → Option Env) : TG := fun v σ H Q => ∃ F τ vs ds d, StT K B F H σ τ (v :: vs) (d :: ds) ∧ ∃ τ', g d τ = some τ' ∧
  ∀ σ' F' H', StT K B F' H' σ' τ' vs ds → σ'.length = σ.length → (∀ j, j ∉ sl → σ'[j]? = σ[j]?) → Q σ' H'
def rdGs (sl : List Nat) (g : List D → Env → Option Env) : TGs := fun ws σ H Q => ∃ F τ vs ds es, ws.length = es.length ∧ StT K B F H σ τ (ws ++ vs) (es ++ ds) ∧ ∃ τ', g es τ = some τ' ∧
  ∀ σ' F' H', StT K B F' H' σ' τ' vs ds → σ'.length = σ.length → (∀ j, j ∉ sl → σ'[j]? = σ[j]?) → Q σ' H'
end

/-! ### names and constants -/
def zVar (i : Nat) : MZ := fun τ => τ.getD i none
def zC (d : D) : MZ := fun _ => some d
theorem getD_some {τ : Env} {i : Nat} {d : D} (h : τ.getD i none = some d) : τ[i]? = some (some d) := by
  rw [List.getD_eq_getElem?_getD] at h
  cases e : τ[i]? with
  | none => rw [e] at h; cases h
  | some x => rw [e] at h; exact congrArg some h
section
variable {X : Cx} {B : Bx} {W : WX}
theorem z_var {i : Nat} {e : Expr} (h : PE X e (tVar i)) : PE X e (rdZ X.K B (zVar i)) := PE.imp h fun σ H Q ⟨F, τ, vs, ds, s, d, e, k⟩ => by
  obtain ⟨v, f, h1, h2⟩ := s.get (getD_some e)
  exact ⟨v, h1, k v f h2⟩
theorem z_c {e : Expr} {d : D} {v : V} (h : PE X e (tC v)) (hd : ∀ F, Rep X.K B.ca F d v) : PE X e (rdZ X.K B (zC d)) := PE.imp h fun σ H Q ⟨F, τ, vs, ds, s, d', e, k⟩ => by
  cases (show some d = some d' from e)
  exact k v _ (hd F).o
theorem z_int {i j pos} : PE X (.Constant (.int i) j pos) (rdZ X.K B (zC (.int i))) := z_c pe_int fun _ => rfl
theorem z_bl {b j pos} : PE X (.Constant (.bool b) j pos) (rdZ X.K B (zC (.bl b))) := z_c pe_bl fun _ => rfl
theorem z_non {j pos} : PE X (.Constant .none j pos) (rdZ X.K B (zC .non)) := z_c pe_non fun _ => rfl
theorem z_str {x j pos} : PE X (.Constant (.str x) j pos) (rdZ X.K B (zC (.str x))) := z_c pe_str fun _ => rfl
theorem z_ty {x : Str} {n : String} {pos : Pos} (hg : Gl X x) (hm : X.mg x = none) (hv : bootBuiltins x = some (.type n)) (hn : x ≠ "__name__" := by decide) (hd : (x == ("__debug__" : Str)) = false := by decide) : PE X (.Name x pos) (rdZ X.K B (zC (.ty n))) :=
  z_c (pe_bltn (v := .ty n) hg hm hv rfl hn hd) fun _ => rfl

/-! ### from Z to E -/
def eZ (m : MZ) : ME := fun τ => match m τ with
  | some d => if isFz d = true then .ok d τ else .bad
  | none => .bad
theorem e_z {e : Expr} {m : MZ} (h : PE X e (rdZ X.K B m)) : PE X e (rdE X.K B W (eZ m)) := PE.imp h fun σ H Q ⟨F, τ, vs, ds, s, k⟩ => by
  unfold eZ at k
  cases e : m τ with
  | none => rw [e] at k; exact k.elim
  | some d =>
    rw [e] at k
    by_cases z : isFz d = true
    · simp only [z, if_true] at k
      exact ⟨F, τ, vs, ds, s, d, e, fun v f r => k v F H (s.push ((repO_fz z).mp r).1)⟩
    · simp only [z] at k
      exact k.elim
/-- a name's value; what it owns is given up -/
def eVar (i : Nat) : ME := fun τ => match τ.getD i none with
  | some d => if isFz d = true then .ok d τ else .ok (freeze d) (τ.set i (some (freeze d)))
  | none => .bad
theorem e_var {i : Nat} {e : Expr} (h : PE X e (tVar i)) : PE X e (rdE X.K B W (eVar i)) := PE.imp h fun σ H Q ⟨F, τ, vs, ds, s, k⟩ => by
  unfold eVar at k
  cases e : τ.getD i none with
  | none => rw [e] at k; exact k.elim
  | some d =>
    rw [e] at k
    have e' := getD_some e
    by_cases z : isFz d = true
    · simp only [z, if_true] at k
      obtain ⟨v, f, h1, h2⟩ := s.get e'
      exact ⟨v, h1, k v F H (s.push ((repO_fz z).mp h2).1)⟩
    · simp only [z] at k
      obtain ⟨v, h1, s1⟩ := s.take e'
      obtain ⟨F', sm, ⟨_, _, e2, r, _⟩, s2⟩ := StT.freeze (us := [v]) (es := [d]) s1 rfl
      cases e2
      have s3 := StT.putBack (s2.push r) (i := i) (by rw [List.length_set]; exact (List.getElem?_eq_some_iff.mp e').1) h1
      rw [List.set_set] at s3
      exact ⟨v, h1, k v F' H (s3.push r)⟩
/-- a name gives its value away -/
def eMv (i : Nat) : ME := fun τ => match τ.getD i none with
  | some d => .ok d (τ.set i none)
  | none => .bad
theorem e_mv {i : Nat} {e : Expr} (h : PE X e (tVar i)) : PE X e (rdE X.K B W (eMv i)) := PE.imp h fun σ H Q ⟨F, τ, vs, ds, s, k⟩ => by
  unfold eMv at k
  cases e : τ.getD i none with
  | none => rw [e] at k; exact k.elim
  | some d =>
    rw [e] at k
    obtain ⟨v, h1, s1⟩ := s.take (getD_some e)
    exact ⟨v, h1, k v F H s1⟩

/-! ### operators by values -/
def OpS (K : PySem.W.Frag) (r : R2) (g : D → D → Option D) : Prop := ∀ (ca : Str → Addr) (F H : Hp) (x y : V) (a b d : D) (f1 f2 : Ct) (Q : VK), Same F H → RepO K ca F H a x f1 → RepO K ca F H b y f2 → g a b = some d → (∀ v f, RepO K ca F H d v f → Q v H) → r x y H Q
def UnS (K : PySem.W.Frag) (r : V → Hp → VK → Prop) (g : D → Option D) : Prop := ∀ (ca : Str → Addr) (F H : Hp) (x : V) (a d : D) (f1 : Ct) (Q : VK), Same F H → RepO K ca F H a x f1 → g a = some d → (∀ v f, RepO K ca F H d v f → Q v H) → r x H Q
def CallS (K : PySem.W.Frag) (r : List V → Hp → VK → Prop) (g : List D → Option D) : Prop := ∀ (ca : Str → Addr) (F H : Hp) (xs : List V) (as : List D) (d : D) (f1 : Ct) (Q : VK), Same F H → RepOs K ca F H as xs f1 → g as = some d → (∀ v f, RepO K ca F H d v f → Q v H) → r xs H Q
def z2 (g : D → D → Option D) (m n : MZ) : MZ := fun τ => (m τ).bind fun a => (n τ).bind fun b => g a b
def z1 (g : D → Option D) (m : MZ) : MZ := fun τ => (m τ).bind g
def ofO (o : Option D) (τ : Env) : R D := match o with
  | some d => if isFz d = true then .ok d τ else .bad
  | none => .bad
def e2 (g : D → D → Option D) (m n : ME) : ME := fun τ => (m τ).bind fun a τ1 => (n τ1).bind fun b τ2 => ofO (g a b) τ2
def e1 (g : D → Option D) (m : ME) : ME := fun τ => (m τ).bind fun a τ1 => ofO (g a) τ1
def eC (g : List D → Option D) (m : MA) : ME := fun τ => (m τ).bind fun a τ1 => ofO (g a) τ1
theorem post_ofO {y : D → Env → Prop} {x : Str → Env → Prop} {o : Option D} {τ : Env} (h : post y x (ofO o τ)) : ∃ d, o = some d ∧ isFz d = true ∧ y d τ := by
  unfold ofO at h
  cases o with
  | none => exact h.elim
  | some d =>
    by_cases z : isFz d = true
    · simp only [z, if_true] at h; exact ⟨d, rfl, z, h⟩
    · simp only [z] at h; exact h.elim
theorem bind_some {α β : Type} {o : Option α} {k : α → Option β} {d : β} (h : o.bind k = some d) : ∃ a, o = some a ∧ k a = some d := by
  cases o with
  | none => cases h
  | some a => exact ⟨a, rfl, h⟩
theorem imp2Z {r : R2} {g : D → D → Option D} {m n : MZ} (hs : OpS X.K r g) (σ : L2.St) (H : Hp) (Q : VK) (h : rdZ X.K B (z2 g m n) σ H Q) : tOp r (rdZ X.K B m) (rdZ X.K B n) σ H Q := by
  obtain ⟨F, τ, vs, ds, s, d, e, k⟩ := h
  obtain ⟨a, ea, e⟩ := bind_some e
  obtain ⟨b, eb, e⟩ := bind_some e
  exact ⟨F, τ, vs, ds, s, a, ea, fun x f1 hx => ⟨F, τ, vs, ds, s, b, eb, fun y f2 hy => hs _ _ _ _ _ _ _ _ _ _ _ s.same hx hy e k⟩⟩
theorem imp2E {r : R2} {g : D → D → Option D} {m n : ME} (hs : OpS X.K r g) (σ : L2.St) (H : Hp) (Q : VK) (h : rdE X.K B W (e2 g m n) σ H Q) : tOp r (rdE X.K B W m) (rdE X.K B W n) σ H Q := by
  obtain ⟨F, τ, vs, ds, s, p⟩ := h
  refine ⟨F, τ, vs, ds, s, post_imp (post_bind p) (fun a τ1 q x F1 H1 s1 => ⟨F1, τ1, _, _, s1, post_imp (post_bind q) (fun b τ2 q y F2 H2 s2 => ?_) fun c τ2 q F2 H2 s2 => q F2 H2 s2.pop⟩) fun _ _ q => q⟩
  obtain ⟨d, e, z, q⟩ := post_ofO q
  obtain ⟨f2, hy⟩ := s2.top
  obtain ⟨f1, hx⟩ := s2.pop.top
  exact hs _ _ _ _ _ _ _ _ _ _ _ s2.same hx hy e fun v f hv => q v F2 H2 (s2.pop.pop.push ((repO_fz z).mp hv).1)
theorem imp1Z {r : V → Hp → VK → Prop} {g : D → Option D} {m : MZ} (hs : UnS X.K r g) (σ : L2.St) (H : Hp) (Q : VK) (h : rdZ X.K B (z1 g m) σ H Q) : tUn r (rdZ X.K B m) σ H Q := by
  obtain ⟨F, τ, vs, ds, s, d, e, k⟩ := h
  obtain ⟨a, ea, e⟩ := bind_some e
  exact ⟨F, τ, vs, ds, s, a, ea, fun x f1 hx => hs _ _ _ _ _ _ _ _ s.same hx e k⟩
theorem imp1E {r : V → Hp → VK → Prop} {g : D → Option D} {m : ME} (hs : UnS X.K r g) (σ : L2.St) (H : Hp) (Q : VK) (h : rdE X.K B W (e1 g m) σ H Q) : tUn r (rdE X.K B W m) σ H Q := by
  obtain ⟨F, τ, vs, ds, s, p⟩ := h
  refine ⟨F, τ, vs, ds, s, post_imp (post_bind p) (fun a τ1 q x F1 H1 s1 => ?_) fun _ _ q => q⟩
  obtain ⟨d, e, z, q⟩ := post_ofO q
  obtain ⟨f1, hx⟩ := s1.top
  exact hs _ _ _ _ _ _ _ _ s1.same hx e fun v f hv => q v F1 H1 (s1.pop.push ((repO_fz z).mp hv).1)
theorem z_op {op : Operator} {a b : Expr} {pos : Pos} {r : R2} {g : D → D → Option D} {m n : MZ} (ho : OpR X (binaryOp op) r) (hs : OpS X.K r g) (ha : PE X a (rdZ X.K B m)) (hb : PE X b (rdZ X.K B n)) : PE X (.BinOp a op b pos) (rdZ X.K B (z2 g m n)) := PE.imp (pe_op ho ha hb) (imp2Z hs)
theorem e_op {op : Operator} {a b : Expr} {pos : Pos} {r : R2} {g : D → D → Option D} {m n : ME} (ho : OpR X (binaryOp op) r) (hs : OpS X.K r g) (ha : PE X a (rdE X.K B W m)) (hb : PE X b (rdE X.K B W n)) : PE X (.BinOp a op b pos) (rdE X.K B W (e2 g m n)) := PE.imp (pe_op ho ha hb) (imp2E hs)
theorem z_un {op : UnaryOp} {a : Expr} {pos : Pos} {r : V → Hp → VK → Prop} {g : D → Option D} {m : MZ} (ho : UnR X (unaryOp op) r) (hs : UnS X.K r g) (ha : PE X a (rdZ X.K B m)) : PE X (.UnaryOp op a pos) (rdZ X.K B (z1 g m)) := PE.imp (pe_un ho ha) (imp1Z hs)
theorem e_un {op : UnaryOp} {a : Expr} {pos : Pos} {r : V → Hp → VK → Prop} {g : D → Option D} {m : ME} (ho : UnR X (unaryOp op) r) (hs : UnS X.K r g) (ha : PE X a (rdE X.K B W m)) : PE X (.UnaryOp op a pos) (rdE X.K B W (e1 g m)) := PE.imp (pe_un ho ha) (imp1E hs)
theorem z_ix {a b : Expr} {pos : Pos} {r : R2} {g : D → D → Option D} {m n : MZ} (ho : IxR X r) (hs : OpS X.K r g) (ha : PE X a (rdZ X.K B m)) (hb : PE X b (rdZ X.K B n)) (hp : PlainIx b := by exact fun _ _ => rfl) : PE X (.Subscript a b pos) (rdZ X.K B (z2 g m n)) := PE.imp (pe_ix ho ha hb hp) (imp2Z hs)
theorem e_ix {a b : Expr} {pos : Pos} {r : R2} {g : D → D → Option D} {m n : ME} (ho : IxR X r) (hs : OpS X.K r g) (ha : PE X a (rdE X.K B W m)) (hb : PE X b (rdE X.K B W n)) (hp : PlainIx b := by exact fun _ _ => rfl) : PE X (.Subscript a b pos) (rdE X.K B W (e2 g m n)) := PE.imp (pe_ix ho ha hb hp) (imp2E hs)
theorem z_cmp {op : CmpOp} {a b : Expr} {pos : Pos} {r : R2} {g : D → D → Option D} {m n : MZ} (ho : OpR X (compareOp op) r) (hs : OpS X.K r g) (ha : PE X a (rdZ X.K B m)) (hb : PE X b (rdZ X.K B n)) (hm : behindInMarks op b = false := by first | exact nomark _ | rfl) : PE X (.Compare a [op] [b] pos) (rdZ X.K B (z2 g m n)) := PE.imp (pe_cmpR ho ha hb hm) (imp2Z hs)
theorem e_cmp {op : CmpOp} {a b : Expr} {pos : Pos} {r : R2} {g : D → D → Option D} {m n : ME} (ho : OpR X (compareOp op) r) (hs : OpS X.K r g) (ha : PE X a (rdE X.K B W m)) (hb : PE X b (rdE X.K B W n)) (hm : behindInMarks op b = false := by first | exact nomark _ | rfl) : PE X (.Compare a [op] [b] pos) (rdE X.K B W (e2 g m n)) := PE.imp (pe_cmpR ho ha hb hm) (imp2E hs)

/-! ### tests -/
def tE (m : ME) : MT := fun τ => (m τ).bind fun d τ1 => match d with
  | .bl b => .ok b τ1
  | _ => .bad
def tZ (m : MZ) : MT := fun τ => match m τ with
  | some (.bl b) => .ok b τ
  | _ => .bad
theorem impTE {m : ME} (σ : L2.St) (H : Hp) (Q : Bool → Hp → Prop) (h : rdT X.K B W (tE m) σ H Q) : rdE X.K B W m σ H fun x H' => ∃ k, x = .bl k ∧ Q k H' := by
  obtain ⟨F, τ, vs, ds, s, p⟩ := h
  refine ⟨F, τ, vs, ds, s, post_imp (post_bind p) (fun d τ1 q x F1 H1 s1 => ?_) fun _ _ q => q⟩
  cases d with
  | bl b => exact ⟨b, s1.topF rfl, q F1 H1 s1.pop⟩
  | _ => exact False.elim q
theorem impTZ {m : MZ} (σ : L2.St) (H : Hp) (Q : Bool → Hp → Prop) (h : rdT X.K B W (tZ m) σ H Q) : rdZ X.K B m σ H fun x H' => ∃ k, x = .bl k ∧ Q k H' := by
  obtain ⟨F, τ, vs, ds, s, p⟩ := h
  unfold tZ at p
  cases e : m τ with
  | none => rw [e] at p; exact False.elim p
  | some d =>
    rw [e] at p
    cases d with
    | bl b => exact ⟨F, τ, vs, ds, s, _, e, fun v f r => ⟨b, r.1, p F H s⟩⟩
    | _ => exact False.elim p
theorem t_valZ {e : Expr} {m : MZ} (h : PE X e (rdZ X.K B m)) (he : ∀ whole, isTrue e X.env whole = (do let v ← whole; standAt e.pos; holding [v] (truthy v)) := by intro _; rfl) : PT X e (rdT X.K B W (tZ m)) := PT.imp (pt_val h he) impTZ
theorem t_valE {e : Expr} {m : ME} (h : PE X e (rdE X.K B W m)) (he : ∀ whole, isTrue e X.env whole = (do let v ← whole; standAt e.pos; holding [v] (truthy v)) := by intro _; rfl) : PT X e (rdT X.K B W (tE m)) := PT.imp (pt_val h he) impTE
theorem t_cmpZ {op : CmpOp} {a b : Expr} {pos : Pos} {r : R2} {g : D → D → Option D} {m n : MZ} (ho : OpR X (compareOp op) r) (hs : OpS X.K r g) (ha : PE X a (rdZ X.K B m)) (hb : PE X b (rdZ X.K B n)) (hm : behindInMarks op b = false := by first | exact nomark _ | rfl) : PT X (.Compare a [op] [b] pos) (rdT X.K B W (tZ (z2 g m n))) :=
  PT.imp (pt_cmpR ho ha hb hm) fun σ H Q h => imp2Z hs σ H _ (impTZ σ H Q h)
theorem t_cmpE {op : CmpOp} {a b : Expr} {pos : Pos} {r : R2} {g : D → D → Option D} {m n : ME} (ho : OpR X (compareOp op) r) (hs : OpS X.K r g) (ha : PE X a (rdE X.K B W m)) (hb : PE X b (rdE X.K B W n)) (hm : behindInMarks op b = false := by first | exact nomark _ | rfl) : PT X (.Compare a [op] [b] pos) (rdT X.K B W (tE (e2 g m n))) :=
  PT.imp (pt_cmpR ho ha hb hm) fun σ H Q h => imp2E hs σ H _ (impTE σ H Q h)
def tAnd (a b : MT) : MT := fun τ => (a τ).bind fun x τ1 => if x = true then b τ1 else .ok false τ1
def tOr (a b : MT) : MT := fun τ => (a τ).bind fun x τ1 => if x = true then .ok true τ1 else b τ1
def tNot (a : MT) : MT := fun τ => (a τ).bind fun x τ1 => .ok (!x) τ1
theorem t_and1 {a : Expr} {pos : Pos} {m : MT} (ha : PT X a (rdT X.K B W m)) : PW X (.BoolOp .And [a] pos) (rdT X.K B W m) := pw_and1 ha
theorem t_or1 {a : Expr} {pos : Pos} {m : MT} (ha : PT X a (rdT X.K B W m)) : PW X (.BoolOp .Or [a] pos) (rdT X.K B W m) := pw_or1 ha
theorem t_and {a b : Expr} {r : List Expr} {pos : Pos} {m n : MT} (ha : PT X a (rdT X.K B W m)) (hb : PW X (.BoolOp .And (b :: r) pos) (rdT X.K B W n)) : PW X (.BoolOp .And (a :: b :: r) pos) (rdT X.K B W (tAnd m n)) := PW.imp (pw_and ha hb) fun σ H Q h => by
  obtain ⟨F, τ, vs, ds, s, p⟩ := h
  refine ⟨F, τ, vs, ds, s, post_imp (post_bind p) (fun b τ1 q F1 H1 s1 => ?_) fun _ _ q => q⟩
  cases b with
  | true => exact ⟨F1, τ1, vs, ds, s1, q⟩
  | false => exact q F1 H1 s1
theorem t_or {a b : Expr} {r : List Expr} {pos : Pos} {m n : MT} (ha : PT X a (rdT X.K B W m)) (hb : PW X (.BoolOp .Or (b :: r) pos) (rdT X.K B W n)) : PW X (.BoolOp .Or (a :: b :: r) pos) (rdT X.K B W (tOr m n)) := PW.imp (pw_or ha hb) fun σ H Q h => by
  obtain ⟨F, τ, vs, ds, s, p⟩ := h
  refine ⟨F, τ, vs, ds, s, post_imp (post_bind p) (fun b τ1 q F1 H1 s1 => ?_) fun _ _ q => q⟩
  cases b with
  | false => exact ⟨F1, τ1, vs, ds, s1, q⟩
  | true => exact q F1 H1 s1
theorem t_not {a : Expr} {pos : Pos} {m : MT} (ha : PT X a (rdT X.K B W m)) : PT X (.UnaryOp .Not a pos) (rdT X.K B W (tNot m)) := PT.imp (pt_not ha) fun σ H Q h => by
  obtain ⟨F, τ, vs, ds, s, p⟩ := h
  exact ⟨F, τ, vs, ds, s, post_imp (post_bind p) (fun b τ1 q F1 H1 s1 => q F1 H1 s1) fun _ _ q => q⟩
/-- chains a < b < c -/
def zChain (g g' : D → D → Option D) (a b c : MZ) : MZ := fun τ => (a τ).bind fun x => (b τ).bind fun y => (g x y).bind fun z => match z with
  | .bl true => (c τ).bind fun w => g' y w
  | .bl false => some (.bl false)
  | _ => none
theorem impChZ {r r' : R2} {g g' : D → D → Option D} {l m n : MZ} (hs : OpS X.K r g) (hs' : OpS X.K r' g') (σ : L2.St) (H : Hp) (Q : VK) (h : rdZ X.K B (zChain g g' l m n) σ H Q) : tChain r r' (rdZ X.K B l) (rdZ X.K B m) (rdZ X.K B n) σ H Q := by
  obtain ⟨F, τ, vs, ds, s, d, e, k⟩ := h
  obtain ⟨a, ea, e⟩ := bind_some e
  obtain ⟨b, eb, e⟩ := bind_some e
  obtain ⟨z, ez, e⟩ := bind_some e
  refine ⟨F, τ, vs, ds, s, a, ea, fun x f1 hx => ⟨F, τ, vs, ds, s, b, eb, fun y f2 hy => hs _ _ _ _ _ _ _ _ _ _ _ s.same hx hy ez fun v f hv => ?_⟩⟩
  cases z with
  | bl t =>
    refine ⟨t, hv.1, ?_⟩
    cases t with
    | true =>
      obtain ⟨c, ec, e⟩ := bind_some e
      exact ⟨F, τ, vs, ds, s, c, ec, fun w f3 hw => hs' _ _ _ _ _ _ _ _ _ _ _ s.same hy hw e k⟩
    | false =>
      cases (show some (D.bl false) = some d from e)
      exact k (.bl false) _ (Rep.o (d := .bl false) rfl)
  | _ => cases e
theorem z_chain {op op' : CmpOp} {a b c : Expr} {pos : Pos} {r r' : R2} {g g' : D → D → Option D} {l m n : MZ} (ho : OpR X (compareOp op) r) (hs : OpS X.K r g) (ho' : OpR X (compareOp op') r') (hs' : OpS X.K r' g') (ha : PE X a (rdZ X.K B l)) (hb : PE X b (rdZ X.K B m)) (hc : PE X c (rdZ X.K B n))
    (hm : lastMarks [op, op'] [b, c] = false := by with_unfolding_all rfl) : PE X (.Compare a [op, op'] [b, c] pos) (rdZ X.K B (zChain g g' l m n)) := PE.imp (pe_chain ho ho' ha hb hc hm) (impChZ hs hs')
theorem t_chain {op op' : CmpOp} {a b c : Expr} {pos : Pos} {r r' : R2} {g g' : D → D → Option D} {l m n : MZ} (ho : OpR X (compareOp op) r) (hs : OpS X.K r g) (ho' : OpR X (compareOp op') r') (hs' : OpS X.K r' g') (ha : PE X a (rdZ X.K B l)) (hb : PE X b (rdZ X.K B m)) (hc : PE X c (rdZ X.K B n))
    (hm : lastMarks [op, op'] [b, c] = false := by with_unfolding_all rfl) : PT X (.Compare a [op, op'] [b, c] pos) (rdT X.K B W (tZ (zChain g g' l m n))) := PT.imp (pt_chain ho ho' ha hb hc hm) fun σ H Q h => impChZ hs hs' σ H _ (impTZ σ H Q h)

/-! ### and, or, not, if as values -/
def eAnd (a b : ME) : ME := fun τ => (a τ).bind fun x τ1 => match x with
  | .bl true => b τ1
  | .bl false => .ok (.bl false) τ1
  | _ => .bad
def eOr (a b : ME) : ME := fun τ => (a τ).bind fun x τ1 => match x with
  | .bl false => b τ1
  | .bl true => .ok (.bl true) τ1
  | _ => .bad
def eNot (a : ME) : ME := fun τ => (a τ).bind fun x τ1 => match x with
  | .bl b => .ok (.bl (!b)) τ1
  | _ => .bad
def eIf (c : MT) (a b : ME) : ME := fun τ => (c τ).bind fun x τ1 => if x = true then a τ1 else b τ1
theorem e_one {op : BoolOp} {a : Expr} {pos : Pos} {m : ME} (h : PE X a (rdE X.K B W m)) : PE X (.BoolOp op [a] pos) (rdE X.K B W m) := pe_one h
theorem e_and {a b : Expr} {r : List Expr} {pos : Pos} {m n : ME} (ha : PE X a (rdE X.K B W m)) (hb : PE X (.BoolOp .And (b :: r) pos) (rdE X.K B W n)) : PE X (.BoolOp .And (a :: b :: r) pos) (rdE X.K B W (eAnd m n)) := PE.imp (pe_and ha hb) fun σ H Q h => by
  obtain ⟨F, τ, vs, ds, s, p⟩ := h
  refine ⟨F, τ, vs, ds, s, post_imp (post_bind p) (fun d τ1 q x F1 H1 s1 => ?_) fun _ _ q => q⟩
  cases d with
  | bl b =>
    refine ⟨b, s1.topF rfl, ?_⟩
    cases b with
    | true => exact ⟨F1, τ1, vs, ds, s1.pop, q⟩
    | false => exact q _ F1 H1 (s1.pop.push (d := .bl false) rfl)
  | _ => exact False.elim q
theorem e_or {a b : Expr} {r : List Expr} {pos : Pos} {m n : ME} (ha : PE X a (rdE X.K B W m)) (hb : PE X (.BoolOp .Or (b :: r) pos) (rdE X.K B W n)) : PE X (.BoolOp .Or (a :: b :: r) pos) (rdE X.K B W (eOr m n)) := PE.imp (pe_or ha hb) fun σ H Q h => by
  obtain ⟨F, τ, vs, ds, s, p⟩ := h
  refine ⟨F, τ, vs, ds, s, post_imp (post_bind p) (fun d τ1 q x F1 H1 s1 => ?_) fun _ _ q => q⟩
  cases d with
  | bl b =>
    refine ⟨b, s1.topF rfl, ?_⟩
    cases b with
    | false => exact ⟨F1, τ1, vs, ds, s1.pop, q⟩
    | true => exact q _ F1 H1 (s1.pop.push (d := .bl true) rfl)
  | _ => exact False.elim q
theorem e_not {a : Expr} {pos : Pos} {m : ME} (ha : PE X a (rdE X.K B W m)) : PE X (.UnaryOp .Not a pos) (rdE X.K B W (eNot m)) := PE.imp (pe_not ha) fun σ H Q h => by
  obtain ⟨F, τ, vs, ds, s, p⟩ := h
  refine ⟨F, τ, vs, ds, s, post_imp (post_bind p) (fun d τ1 q x F1 H1 s1 => ?_) fun _ _ q => q⟩
  cases d with
  | bl b => exact ⟨b, s1.topF rfl, q _ F1 H1 (s1.pop.push (d := .bl (!b)) rfl)⟩
  | _ => exact False.elim q
theorem e_if {c a b : Expr} {pos : Pos} {t : MT} {m n : ME} (hc : PT X c (rdT X.K B W t)) (ha : PE X a (rdE X.K B W m)) (hb : PE X b (rdE X.K B W n)) : PE X (.IfExp c a b pos) (rdE X.K B W (eIf t m n)) := PE.imp (pe_ifExp hc ha hb) fun σ H Q h => by
  obtain ⟨F, τ, vs, ds, s, p⟩ := h
  refine ⟨F, τ, vs, ds, s, post_imp (post_bind p) (fun b τ1 q F1 H1 s1 => ?_) fun _ _ q => q⟩
  cases b with
  | true => exact ⟨F1, τ1, vs, ds, s1, q⟩
  | false => exact ⟨F1, τ1, vs, ds, s1, q⟩

/-! ### argument lists -/
def aNil : MA := fun τ => .ok [] τ
def aCons (m : ME) (n : MA) : MA := fun τ => (m τ).bind fun d τ1 => (n τ1).bind fun ds τ2 => .ok (d :: ds) τ2
theorem a_nil : PA X [] (rdA X.K B W aNil) := PA.imp pa_nil fun σ H Q ⟨F, τ, vs, ds, s, p⟩ => p [] F H rfl s
theorem a_cons {e : Expr} {es : List Expr} {m : ME} {n : MA} (ha : PE X e (rdE X.K B W m)) (hr : PA X es (rdA X.K B W n)) (hs : starEach (e :: es) X.env = (false, eval e X.env) :: starEach es X.env := by rfl) : PA X (e :: es) (rdA X.K B W (aCons m n)) := PA.imp (pa_cons ha hr hs) fun σ H Q h => by
  obtain ⟨F, τ, vs, ds, s, p⟩ := h
  refine ⟨F, τ, vs, ds, s, post_imp (post_bind p) (fun a τ1 q x F1 H1 s1 => ⟨F1, τ1, _, _, s1, post_imp (post_bind q) (fun es τ2 q us F2 H2 hl s2 => ?_) fun c τ2 q F2 H2 s2 => q F2 H2 s2.pop⟩) fun _ _ q => q⟩
  exact q (x :: us) F2 H2 (by rw [List.length_cons, List.length_cons, hl]) (s2.swap hl)
/-- with values that are only looked at -/
def rdZA (K : PySem.W.Frag) (B : Bx) (m : Env → Option (List D)) : TA := fun σ H Q => ∃ F τ vs ds, StT K B F H σ τ vs ds ∧ ∃ es, m τ = some es ∧ ∀ us f, RepOs K B.ca F H es us f → Q us H
def zaNil : Env → Option (List D) := fun _ => some []
def zaCons (m : MZ) (n : Env → Option (List D)) : Env → Option (List D) := fun τ => (m τ).bind fun d => (n τ).bind fun ds => some (d :: ds)
theorem za_nil : PA X [] (rdZA X.K B zaNil) := PA.imp pa_nil fun σ H Q ⟨F, τ, vs, ds, s, es, e, k⟩ => by
  cases (show some [] = some es from e)
  exact k [] (fun _ => 0) ⟨rfl, fun _ => rfl⟩
theorem za_cons {e : Expr} {es : List Expr} {m : MZ} {n : Env → Option (List D)} (ha : PE X e (rdZ X.K B m)) (hr : PA X es (rdZA X.K B n)) (hs : starEach (e :: es) X.env = (false, eval e X.env) :: starEach es X.env := by rfl) : PA X (e :: es) (rdZA X.K B (zaCons m n)) := PA.imp (pa_cons ha hr hs) fun σ H Q h => by
  obtain ⟨F, τ, vs, ds, s, es, e, k⟩ := h
  obtain ⟨a, ea, e⟩ := bind_some e
  obtain ⟨bs, eb, e⟩ := bind_some e
  cases (show some (a :: bs) = some es from e)
  exact ⟨F, τ, vs, ds, s, a, ea, fun x f1 hx => ⟨F, τ, vs, ds, s, bs, eb, fun us f2 hu => k (x :: us) (fun b => f1 b + f2 b) ⟨x, us, f1, f2, rfl, hx, hu, fun _ => rfl⟩⟩⟩
def zC' (g : List D → Option D) (m : Env → Option (List D)) : MZ := fun τ => (m τ).bind g
theorem impCZ {r : List V → Hp → VK → Prop} {g : List D → Option D} {m : Env → Option (List D)} (hs : CallS X.K r g) (σ : L2.St) (H : Hp) (Q : VK) (h : rdZ X.K B (zC' g m) σ H Q) : tCB r (rdZA X.K B m) σ H Q := by
  obtain ⟨F, τ, vs, ds, s, d, e, k⟩ := h
  obtain ⟨a, ea, e⟩ := bind_some e
  exact ⟨F, τ, vs, ds, s, a, ea, fun us f hu => hs _ _ _ _ _ _ _ _ s.same hu e k⟩
theorem impCE {r : List V → Hp → VK → Prop} {g : List D → Option D} {m : MA} (hs : CallS X.K r g) (σ : L2.St) (H : Hp) (Q : VK) (h : rdE X.K B W (eC g m) σ H Q) : tCB r (rdA X.K B W m) σ H Q := by
  obtain ⟨F, τ, vs, ds, s, p⟩ := h
  refine ⟨F, τ, vs, ds, s, post_imp (post_bind p) (fun es τ1 q us F1 H1 hl s1 => ?_) fun _ _ q => q⟩
  obtain ⟨d, e, z, q⟩ := post_ofO q
  obtain ⟨f1, hu⟩ := s1.tops hl
  exact hs _ _ _ _ _ _ _ _ s1.same hu e fun v f hv => q v F1 H1 ((s1.pops hl).push ((repO_fz z).mp hv).1)
section
variable {x : Str} {p pos : Pos} {e : Expr} {es : List Expr} {id T : String} {r : List V → Hp → VK → Prop} {g : List D → Option D}
theorem z_callB {m : Env → Option (List D)} (hc : CallR X (.builtin id) r) (hs : CallS X.K r g) (hg : Gl X x) (hm : X.mg x = none) (hv : bootBuiltins x = some (.builtin id)) (ha : PA X (e :: es) (rdZA X.K B m)) (hn : x ≠ "__name__" := by decide) (hdb : (x == ("__debug__" : Str)) = false := by decide)
    (he : starEach (e :: es) X.env = (false, eval e X.env) :: starEach es X.env := by rfl) (hpl : (backTo pos (starEach es X.env)).any (·.1) = false := by rfl) : PE X (.Call (.Name x p) (e :: es) [] pos) (rdZ X.K B (zC' g m)) := PE.imp (pe_callB hc hg hm hv ha hn hdb he hpl) (impCZ hs)
theorem e_callB {m : MA} (hc : CallR X (.builtin id) r) (hs : CallS X.K r g) (hg : Gl X x) (hm : X.mg x = none) (hv : bootBuiltins x = some (.builtin id)) (ha : PA X (e :: es) (rdA X.K B W m)) (hn : x ≠ "__name__" := by decide) (hdb : (x == ("__debug__" : Str)) = false := by decide)
    (he : starEach (e :: es) X.env = (false, eval e X.env) :: starEach es X.env := by rfl) (hpl : (backTo pos (starEach es X.env)).any (·.1) = false := by rfl) : PE X (.Call (.Name x p) (e :: es) [] pos) (rdE X.K B W (eC g m)) := PE.imp (pe_callB hc hg hm hv ha hn hdb he hpl) (impCE hs)
theorem e_callTy {m : MA} (hc : CallR X (.type T) r) (hs : CallS X.K r g) (hg : Gl X x) (hm : X.mg x = none) (hv : bootBuiltins x = some (.type T)) (ha : PA X (e :: es) (rdA X.K B W m)) (hn : x ≠ "__name__" := by decide) (hdb : (x == ("__debug__" : Str)) = false := by decide)
    (he : starEach (e :: es) X.env = (false, eval e X.env) :: starEach es X.env := by rfl) (hpl : (backTo pos (starEach es X.env)).any (·.1) = false := by rfl) : PE X (.Call (.Name x p) (e :: es) [] pos) (rdE X.K B W (eC g m)) := PE.imp (pe_callTy hc hg hm hv ha hn hdb he hpl) (impCE hs)
end

/-! ### displays -/
def eTup (m : MA) : ME := fun τ => (m τ).bind fun ds τ1 => if ds.length ≤ 1000000 then .ok (.tup (freezeL ds)) τ1 else .bad
def eLst (m : MA) : ME := fun τ => (m τ).bind fun ds τ1 => if ds.length ≤ 1000000 then .ok (.lst true ds) τ1 else .bad
theorem le_sizeLine {n : Nat} (h : n ≤ 1000000) : n ≤ sizeLine := by rw [sizeLine_eq]; omega
theorem e_tup {es : List Expr} {k : Nat} {pos : Pos} {m : MA} (h : PA X es (rdA X.K B W m)) : PE X (.Tuple es k pos) (rdE X.K B W (eTup m)) := PE.imp (pe_tup h) fun σ H Q h => by
  obtain ⟨F, τ, vs, ds, s, p⟩ := h
  refine ⟨F, τ, vs, ds, s, post_imp (post_bind p) (fun es τ1 q us F1 H1 hl s1 => ?_) fun _ _ q => q⟩
  by_cases z : es.length ≤ 1000000
  · simp only [z, if_true] at q
    refine ⟨le_sizeLine (hl ▸ z), fun p hp => ?_⟩
    obtain ⟨F2, sm, rl, s2⟩ := s1.freeze hl
    exact q _ _ _ (s2.newTup hp rl)
  · simp only [z] at q; exact False.elim q
theorem e_lst {es : List Expr} {pos : Pos} {m : MA} (h : PA X es (rdA X.K B W m)) : PE X (.List es pos) (rdE X.K B W (eLst m)) := PE.imp (pe_lst h) fun σ H Q h => by
  obtain ⟨F, τ, vs, ds, s, p⟩ := h
  refine ⟨F, τ, vs, ds, s, post_imp (post_bind p) (fun es τ1 q us F1 H1 hl s1 => ?_) fun _ _ q => q⟩
  by_cases z : es.length ≤ 1000000
  · simp only [z, if_true] at q
    exact ⟨le_sizeLine (hl ▸ z), fun p hp => q _ _ _ (s1.newLst hl hp)⟩
  · simp only [z] at q; exact False.elim q
end
end Bn

/-! Calls, statements, loops, try, comprehensions; a def by its function. -/
namespace Bn
open PySem PySem.Spec PyProof.Rows L2

structure XOk (X : Cx) (W : WX) : Prop where
  tk : Takes X W
  hp : PassesOwn (model X.prog X.w) X.A X.env X.xe
  calm : X.calm = true
abbrev W0 : WX := fun _ _ _ _ => False

/-! ### calls -/
def spP (K : PySem.W.Frag) (ca : Str → Addr) (g : List D → CR) : Sp := fun vs H Q E => ∃ F ds, Same F H ∧ RepL K ca F ds vs ∧
  match g ds with
  | .ok d => ∀ v F' H' f, Same F F' → Same F' H' → Same H H' → RepO K ca F' H' d v f → (∀ a, f a ≤ 1) → (∀ a, 0 < f a → F' a = none ∧ H a = none) → (∀ a, F' a ≠ none → F a ≠ none ∨ H a = none) → Q v H'
  | .ex c => ∀ H', Same H H' → E (.ref (ca c)) none H'
  | .bad => False
structure Fo (P : Program) (w : World) (K : PySem.W.Frag) (mg : Str → Option Value) (base : Heap) (ca : Str → Addr) (k : Nat) (x : Str) (g : List D → CR) : Prop where
  ex : ∃ f fd ps, mg x = some (.ref f) ∧ PySem.W.keepIn K (.ref f) = true ∧ Binds K fd ps [] ∧ FnOk P w K mg base (L2.CX P w) k f fd ps (spP K ca g)
def ofC (r : CR) (τ : Env) : R D := match r with
  | .ok d => .ok d τ
  | .ex c => .ex c τ
  | .bad => .bad
def eCall (g : List D → CR) (m : MA) : ME := fun τ => (m τ).bind fun ds τ1 => ofC (g (freezeL ds)) τ1
def eCall0 (g : List D → CR) : ME := fun τ => match g [] with
  | .ok d => .ok d τ
  | _ => .bad
section
variable {X : Cx} {B : Bx} {W : WX}
theorem e_call {x : Str} {p pos : Pos} {e : Expr} {es : List Expr} {m : MA} {g : List D → CR} {k j : Nat} (c : XOk X W) (G : Fo X.prog X.w X.K X.mg X.base B.ca k x g) (hr : Room j X.A) (hg : Gl X x) (ha : PA X (e :: es) (rdA X.K B W m)) (hk : k ≤ j := by decide) (hdb : (x == ("__debug__" : Str)) = false := by decide)
    (he : starEach (e :: es) X.env = (false, eval e X.env) :: starEach es X.env := by rfl) (hpl : (backTo pos (starEach es X.env)).any (·.1) = false := by rfl) : PE X (.Call (.Name x p) (e :: es) [] pos) (rdE X.K B W (eCall g m)) := by
  obtain ⟨f, fd, ps, h1, h2, h3, h4⟩ := G.ex
  refine PE.imp (pe_callS h4 (hr.mono hk) hg h1 h2 h3 (fun σ => passAt c.tk σ) ha hdb he hpl) fun σ H Q h => ?_
  obtain ⟨F, τ, vs, ds, s, p⟩ := h
  refine ⟨F, τ, vs, ds, s, post_imp (post_bind p) (fun as τ1 q us F1 H1 hl s1 => ?_) fun _ _ q => q⟩
  obtain ⟨F2, sm, rl, s2⟩ := s1.freeze hl
  refine ⟨F2, freezeL as, s2.same, rl, ?_⟩
  cases eg : g (freezeL as) with
  | ok d => rw [eg] at q; exact fun v F' H' f k1 k2 k3 k4 k5 k6 k7 => q v F' H' (s2.called k1 k2 k3 k4 k5 k6 k7)
  | ex c => rw [eg] at q; exact fun H' k1 => q F2 H' (s2.grown k1)
  | bad => rw [eg] at q; exact q
theorem e_call0 {x : Str} {p pos : Pos} {g : List D → CR} {k j : Nat} (G : Fo X.prog X.w X.K X.mg X.base B.ca k x g) (hr : Room j X.A) (hg : Gl X x) (hk : k ≤ j := by decide) (hdb : (x == ("__debug__" : Str)) = false := by decide) :
    PE X (.Call (.Name x p) [] [] pos) (rdE X.K B W (eCall0 g)) := by
  obtain ⟨f, fd, ps, h1, h2, h3, h4⟩ := G.ex
  refine PE.imp (pe_call0 h4 (hr.mono hk) hg h1 h2 h3 .nil passL hdb) fun σ H Q h => ?_
  obtain ⟨F, τ, vs, ds, s, p⟩ := h
  refine ⟨F, [], s.same, rfl, ?_⟩
  unfold eCall0 at p
  cases eg : g [] with
  | ok d => rw [eg] at p; exact fun v F' H' f k1 k2 k3 k4 k5 k6 k7 => p v F' H' (s.called k1 k2 k3 k4 k5 k6 k7)
  | ex c => rw [eg] at p; exact p.elim
  | bad => rw [eg] at p; exact p

/-! ### statements -/
def R.s {α : Type} : R α → (α → Env → SR) → SR
  | .ok a τ, k => k a τ
  | .ex c τ, _ => .ex c τ
  | .bad, _ => .bad
theorem post_s {α : Type} {K : PySem.W.Frag} {vs : List V} {ds : List D} {D' : Ends} {r : R α} {k : α → Env → SR} {σ : L2.St} (h : postS K B W vs ds D' (r.s k)) : post (fun a τ => postS K B W vs ds D' (k a τ)) (exW K B W σ vs ds) r := by
  cases r with
  | ok a τ => exact h
  | ex c τ => exact fun F H s => h σ F H s
  | bad => exact h
def sSeq (s r : MS) : MS := fun τ => match s τ with
  | .nx τ' => r τ'
  | .rt d τ' => .rt d τ'
  | .bk τ' => .bk τ'
  | .ct τ' => .ct τ'
  | .ex c τ' => .ex c τ'
  | .bad => .bad
def sNil : MS := fun τ => .nx τ
theorem s_nil : PSs X [] (rdS X.K B W sNil) := PSs.imp pss_nil fun D σ H ⟨F, τ, vs, ds, s, p⟩ => p σ F H s
theorem s_one {st : Stmt} {m : MS} (h : PS X st (rdS X.K B W m)) : PSs X [st] (rdS X.K B W m) := pss_one h
theorem s_cons {st : Stmt} {r : List Stmt} {m n : MS} (h : PS X st (rdS X.K B W m)) (hr : PSs X r (rdS X.K B W n)) : PSs X (st :: r) (rdS X.K B W (sSeq m n)) := PSs.imp (pss_cons h hr) fun D σ H ⟨F, τ, vs, ds, s, p⟩ => by
  refine ⟨F, τ, vs, ds, s, ?_⟩
  unfold sSeq at p
  cases e : m τ with
  | nx τ' => rw [e] at p; exact fun σ' F' H' s' => ⟨F', τ', vs, ds, s', p⟩
  | _ => rw [e] at p; exact p
def sRet (m : ME) : MS := fun τ => (m τ).s fun d τ1 => .rt d τ1
theorem s_ret {e : Expr} {pos : Pos} {m : ME} (h : PE X e (rdE X.K B W m)) : PS X (.Return (some e) pos) (rdS X.K B W (sRet m)) := PS.imp (ps_ret h) fun D σ H ⟨F, τ, vs, ds, s, p⟩ =>
  ⟨F, τ, vs, ds, s, post_imp (post_s (σ := σ) p) (fun d τ1 q v F1 H1 s1 => q v σ F1 H1 s1) fun _ _ q => q⟩
def sRetN : MS := fun τ => .rt .non τ
theorem s_retN {pos : Pos} : PS X (.Return none pos) (rdS X.K B W sRetN) := PS.imp ps_retN fun D σ H ⟨F, τ, vs, ds, s, p⟩ => p .non σ F H (s.push (d := .non) rfl)
def sDrop (m : ME) : MS := fun τ => (m τ).s fun _ τ1 => .nx τ1
theorem s_expr {e : Expr} {pos : Pos} {m : ME} (h : PE X e (rdE X.K B W m)) (hs : swapsWith e none pos.line X.env = pure false := by rfl) : PS X (.Expr e pos) (rdS X.K B W (sDrop m)) := PS.imp (ps_expr h hs) fun D σ H ⟨F, τ, vs, ds, s, p⟩ =>
  ⟨F, τ, vs, ds, s, post_imp (post_s (σ := σ) p) (fun d τ1 q v F1 H1 s1 => q σ F1 H1 s1.pop) fun _ _ q => q⟩
theorem s_doc {x j pos pos'} : PS X (.Expr (.Constant (.str x) j pos) pos') (rdS X.K B W sNil) := PS.imp ps_doc fun D σ H ⟨F, τ, vs, ds, s, p⟩ => p σ F H s
theorem s_pass {pos : Pos} : PS X (.Pass pos) (rdS X.K B W sNil) := PS.imp ps_pass fun D σ H ⟨F, τ, vs, ds, s, p⟩ => p σ F H s
def sBk : MS := fun τ => .bk τ
def sCt : MS := fun τ => .ct τ
theorem s_break {pos : Pos} : PS X (.Break pos) (rdS X.K B W sBk) := PS.imp ps_break fun D σ H ⟨F, τ, vs, ds, s, p⟩ => p σ F H s
theorem s_continue {pos : Pos} : PS X (.Continue pos) (rdS X.K B W sCt) := PS.imp ps_continue fun D σ H ⟨F, τ, vs, ds, s, p⟩ => p σ F H s
def sIf (c : MT) (a b : MS) : MS := fun τ => (c τ).s fun x τ1 => if x = true then a τ1 else b τ1
theorem s_if {c : Expr} {a b : List Stmt} {pos : Pos} {t : MT} {m n : MS} (hc : PT X c (rdT X.K B W t)) (ha : PSs X a (rdS X.K B W m)) (hb : PSs X b (rdS X.K B W n)) : PS X (.If c a b pos) (rdS X.K B W (sIf t m n)) := PS.imp (ps_if hc ha hb) fun D σ H ⟨F, τ, vs, ds, s, p⟩ => by
  refine ⟨F, τ, vs, ds, s, post_imp (post_s (σ := σ) p) (fun x τ1 q F1 H1 s1 => ?_) fun _ _ q => q⟩
  cases x with
  | true => exact ⟨F1, τ1, vs, ds, s1, q⟩
  | false => exact ⟨F1, τ1, vs, ds, s1, q⟩

/-! ### targets -/
def gN (i : Nat) : D → Env → Option Env := fun d τ => some (τ.set i (some d))
theorem StT.put' {K : PySem.W.Frag} {F H : Hp} {σ : L2.St} {τ : Env} {vs : List V} {ds : List D} {v : V} {d : D} {i : Nat} (s : StT K B F H σ τ (v :: vs) (d :: ds)) (hf : ioFree B i) : StT K B F H (σ.set i (some v)) (τ.set i (some d)) vs ds := by
  by_cases h : i < τ.length
  · exact s.put h hf
  · have hl : σ.length = τ.length := by obtain ⟨f1, f2, a, _⟩ := s; exact a.length
    rw [List.set_eq_of_length_le (by omega), List.set_eq_of_length_le (by omega)]
    exact s.pop
theorem g_name {i : Nat} {x : Str} {pos : Pos} (hN : X.N.Nodup) (hi : X.N[i]? = some x) (hx : Loc X.env.scope x) (hio : ioFree B i := by first | (intro p hp; cases hp; done) | (intro p hp; simp only [List.mem_cons, List.not_mem_nil, or_false] at hp; rcases hp with rfl | rfl <;> simp) | (intro p hp; simp only [List.mem_cons, List.not_mem_nil, or_false] at hp; rcases hp with rfl | rfl | rfl <;> simp) | (intro p hp; simp only [List.mem_cons, List.not_mem_nil, or_false] at hp; subst hp; simp)) (hf : X.fn x = true ∨ X.env.scope.names.lookup x = some .local := by first | exact .inl rfl | exact .inr rfl | assumption) : PG X (.Name x pos) (rdG X.K B [i] (gN i)) :=
  PG.imp (pg_name hN hi hx hf) fun v σ H Q ⟨F, τ, vs, ds, d, s, τ', e, k⟩ => by
    cases (show some (τ.set i (some d)) = some τ' from e)
    refine k _ F H (s.put' hio) (by rw [List.length_set]) fun j hj => ?_
    rw [List.getElem?_set_ne]
    exact fun e => hj (by simp [e])
def gNil' : List D → Env → Option Env := fun ds τ => match ds with
  | [] => some τ
  | _ => none
def gCons' (g : D → Env → Option Env) (h : List D → Env → Option Env) : List D → Env → Option Env := fun ds τ => match ds with
  | d :: r => (g d τ).bind (h r)
  | [] => none
def gT (n : Nat) (g : List D → Env → Option Env) : D → Env → Option Env := fun d τ => match d with
  | .tup es => if es.length = n then g es τ else none
  | _ => none
theorem gs_nil : PGs X [] (rdGs X.K B [] gNil') := PGs.imp pgs_nil fun ws σ H Q ⟨F, τ, vs, ds, es, hl, s, τ', e, k⟩ => by
  cases es with
  | nil =>
    cases (show some τ = some τ' from e)
    have : ws = [] := List.eq_nil_of_length_eq_zero hl
    subst this
    exact ⟨rfl, k σ F H s rfl fun _ _ => rfl⟩
  | cons a b => cases e
theorem gs_cons {e : Expr} {es : List Expr} {sl sl' : List Nat} {g : D → Env → Option Env} {h : List D → Env → Option Env} (h1 : PG X e (rdG X.K B sl g)) (h2 : PGs X es (rdGs X.K B sl' h))
    (hs : (assignEach (e :: es) X.env).map (·.2) = assign e X.env :: (assignEach es X.env).map (·.2) := by rfl) : PGs X (e :: es) (rdGs X.K B (sl ++ sl') (gCons' g h)) := PGs.imp (pgs_cons h1 h2 hs) fun ws σ H Q ⟨F, τ, vs, ds, es, hl, s, τ', e, k⟩ => by
  cases es with
  | nil => cases e
  | cons d r =>
    obtain ⟨τ1, e1, e⟩ := bind_some e
    cases ws with
    | nil => cases hl
    | cons v ws =>
      refine ⟨v, ws, rfl, F, τ, ws ++ vs, r ++ ds, d, s, τ1, e1, fun σ1 F1 H1 s1 l1 k1 => ⟨F1, τ1, vs, ds, r, by simpa using hl, s1, τ', e, fun σ2 F2 H2 s2 l2 k2 => k σ2 F2 H2 s2 (l2.trans l1) fun j hj => ?_⟩⟩
      rw [k2 j fun z => hj (List.mem_append_right _ z), k1 j fun z => hj (List.mem_append_left _ z)]
theorem g_tup {es : List Expr} {k : Nat} {pos : Pos} {sl : List Nat} {g : List D → Env → Option Env} {n : Nat} (hc : X.calm = true) (h : PGs X es (rdGs X.K B sl g)) (hn : (assignEach es X.env).length = n := by rfl) (hst : (assignEach es X.env).findIdx? (·.1) = none := by rfl) : PG X (.Tuple es k pos) (rdG X.K B sl (gT n g)) :=
  PG.imp (pg_tup hc h hn hst) fun v σ H Q ⟨F, τ, vs, ds, d, s, τ', e, k⟩ => by
    cases d with
    | tup xs =>
      obtain ⟨a, us, e1, h1, h2⟩ := s.topF rfl
      subst e1
      by_cases hl : xs.length = n
      · have e' : g xs τ = some τ' := by
          have e' : (if xs.length = n then g xs τ else none) = some τ' := e
          rw [if_pos hl] at e'; exact e'
        have hul := h2.length
        refine ⟨a, us, rfl, sqT_same s.same h1, hul.trans hl, F, τ, vs, ds, xs, hul, ?_, τ', e', k⟩
        obtain ⟨f1, f2, A, b, w, io⟩ := s.pop
        have b2 := (h2.os (H := H)).append b
        have e3 : (fun b => 0 + f2 b) = f2 := funext fun b => by omega
        rw [e3] at b2
        exact ⟨f1, f2, A, b2, w, io⟩
      · have e' : (if xs.length = n then g xs τ else none) = some τ' := e
        rw [if_neg hl] at e'; cases e'
    | _ => cases e
def sAsg (m : ME) (g : D → Env → Option Env) : MS := fun τ => (m τ).s fun d τ1 => match g d τ1 with
  | some τ2 => .nx τ2
  | none => .bad
theorem impAsg {m : ME} {sl : List Nat} {g : D → Env → Option Env} {D' : Ends} {σ : L2.St} {H : Hp} (h : rdS X.K B W (sAsg m g) D' σ H) : tAsg (rdE X.K B W m) (rdG X.K B sl g) D' σ H := by
  obtain ⟨F, τ, vs, ds, s, p⟩ := h
  refine ⟨F, τ, vs, ds, s, post_imp (post_s (σ := σ) p) (fun d τ1 q v F1 H1 s1 => ?_) fun _ _ q => q⟩
  cases e : g d τ1 with
  | none => simp only [e] at q; exact q.elim
  | some τ2 => simp only [e] at q; exact ⟨F1, τ1, vs, ds, d, s1, τ2, e, fun σ' F' H' s' _ _ => q σ' F' H' s'⟩
theorem s_asg {tg e : Expr} {pos : Pos} {m : ME} {sl : List Nat} {g : D → Env → Option Env} (he : PE X e (rdE X.K B W m)) (hg : PG X tg (rdG X.K B sl g)) (hs : swapsWithSole [tg] e pos.line X.env = pure false := by rfl) (hw : swappedStores [tg] e X.env = pure none := by rfl)
    (h1 : (assignEach [tg] X.env).map (·.2) = [assign tg X.env] := by rfl) : PS X (.Assign [tg] e pos) (rdS X.K B W (sAsg m g)) := PS.imp (ps_asg he hg hs hw h1) fun D σ H h => impAsg h
theorem s_set {i : Nat} {x : Str} {e : Expr} {pos pos' : Pos} {m : ME} (hN : X.N.Nodup) (hi : X.N[i]? = some x) (hx : Loc X.env.scope x) (he : PE X e (rdE X.K B W m)) (hio : ioFree B i := by first | (intro p hp; cases hp; done) | (intro p hp; simp only [List.mem_cons, List.not_mem_nil, or_false] at hp; rcases hp with rfl | rfl <;> simp) | (intro p hp; simp only [List.mem_cons, List.not_mem_nil, or_false] at hp; rcases hp with rfl | rfl | rfl <;> simp) | (intro p hp; simp only [List.mem_cons, List.not_mem_nil, or_false] at hp; subst hp; simp)) (hs : swapsWith e (some (.Name x pos')) pos.line X.env = pure false := by rfl)
    (hf : X.fn x = true ∨ X.env.scope.names.lookup x = some .local := by first | exact .inl rfl | exact .inr rfl | assumption) : PS X (.Assign [.Name x pos'] e pos) (rdS X.K B W (sAsg m (gN i))) := PS.imp (ps_set hN hi hx he hs hf) fun D σ H ⟨F, τ, vs, ds, s, p⟩ =>
  ⟨F, τ, vs, ds, s, post_imp (post_s (σ := σ) p) (fun d τ1 q v F1 H1 s1 => q _ F1 H1 (s1.put' hio)) fun _ _ q => q⟩

/-! ### raise, try -/
structure Ec (K : PySem.W.Frag) (mg : Str → Option Value) (ca : Str → Addr) (x : Str) : Prop where
  g : mg x = some (.ref (ca x))
  k : PySem.W.keepIn K (.ref (ca x)) = true
  q : PySem.W.excIn K (ca x) [.type "ValueError", .type "Exception", .type "BaseException", .type "object"] "ValueError.__new__" = true
  b : PySem.W.subIn K (.ref (ca x)) (.type "BaseException") = some true
  t : PySem.W.typeIn K (.ref (ca x)) = some (.type "type")
def sRaise (x : Str) : MS := fun τ => .ex x τ
theorem s_raise {x m : Str} {j} {p p2 pos1 pos : Pos} (c : XOk X W) (E : Ec X.K X.mg B.ca x) (hg : Gl X x) (hdb : (x == ("__debug__" : Str)) = false := by decide) : PS X (.Raise (some (.Call (.Name x p) [.Constant (.str m) j p2] [] pos1)) none pos) (rdS X.K B W (sRaise x)) :=
  PS.imp (ps_raise c.calm c.tk (pmk_own PySem.F.excBase_ValueError E.q E.g E.k (raises_own E.b E.t) hg hdb)) fun D σ H ⟨F, τ, vs, ds, s, p⟩ => p σ F H s
def noEx (r : SR) : SR := match r with
  | .ex _ _ => .bad
  | r => r
def sTry (sub : Str → Option Bool) (b su : MS) : MS := fun τ => match b τ with
  | .ex c τ' => (match sub c with
    | some true => noEx (su τ')
    | some false => .ex c τ'
    | none => .bad)
  | .nx τ' => .nx τ'
  | .rt d τ' => .rt d τ'
  | .bk τ' => .bk τ'
  | .ct τ' => .ct τ'
  | .bad => .bad
theorem s_try {x : Str} {cv : Value} {body suite : List Stmt} {b₀ : Stmt} {np pos pos' : Pos} {b su : MS} (c : XOk X W) (sub : Str → Option Bool) (hn : Names X x cv) (hsub : ∀ y t, sub y = some t → PySem.W.exmOne X.K (.ref (B.ca y)) cv = some t) (hs : X.stack = X.env :: X.outer) (hf : X.env.frame = some X.env.locals)
    (hb : ∀ (W' : WX) (pn : List (Addr × Obj)) (xe : Value → Shared → Prop), XOk (X.tr pn xe) W' → PSs (X.tr pn xe) body (rdS X.K B W' b))
    (hsu : ∀ (a : Addr) (oe : Obj) (cls : Value) (d : Option Addr) (pn : List (Addr × Obj)), PSs (X.suite a ((a, oe) :: pn)) (b₀ :: suite) (rdS X.K B W0 su)) :
    PS X (.Try body [.ExceptHandler (some (.Name x np)) none (b₀ :: suite) pos'] [] [] pos) (rdS X.K B W (sTry sub b su)) :=
  PS.imp (ps_try_only (tb := fun W' => rdS X.K B W' b) (ts := fun _ _ _ => rdS X.K B W0 su) hs hf hn c.tk (fun W' pn xe tk hp => hb W' pn xe ⟨tk, hp, c.calm⟩) fun a oe cls d pn _ _ => hsu a oe cls d pn) fun D σ H ⟨F, τ, vs, ds, s, p⟩ => by
    refine ⟨F, τ, vs, ds, s, ?_⟩
    unfold sTry at p
    cases e : b τ with
    | ex y τ' =>
      rw [e] at p
      intro σ' F' H' s'
      cases es : sub y with
      | none => simp only [es] at p; exact p.elim
      | some t =>
        simp only [es] at p
        refine ⟨t, hsub y t es, fun ht a ha => ?_, fun ht => ?_⟩
        · subst ht
          refine ⟨F', τ', vs, ds, s', ?_⟩
          cases e2 : su τ' with
          | ex y2 τ2 => simp only [e2] at p; exact False.elim p
          | _ => simp only [e2] at p; exact p
        · subst ht; exact p σ' F' H' s'
    | _ => rw [e] at p; exact p

/-! ### what is walked -/
theorem sqOf {K : PySem.W.Frag} {H : Hp} {a : Addr} {xs : List V} (h : H a = some (.lst xs)) : SqL K H a xs := .inl (.inl h)
structure ItOk (K : PySem.W.Frag) (B : Bx) (J : It) (items : List D) (tv : List V) (td : List D) : Prop where
  go : ∀ i F H σ τ, StT K B F H σ τ tv td → i < items.length → J.go i H
  st : ∀ F H σ τ, StT K B F H σ τ tv td → J.stop items.length H
  y : ∀ i d F H σ τ x H' us es, us.length = es.length → items[i]? = some d → StT K B F H σ τ (us ++ tv) (es ++ td) → J.yld i H x H' → ∃ F', StT K B F' H' σ τ (x :: (us ++ tv)) (d :: (es ++ td))
def rdI (K : PySem.W.Frag) (B : Bx) (W : WX) (m : MA) : TI := fun σ H R => ∃ F τ vs ds, StT K B F H σ τ vs ds ∧ post (fun items τ1 => ∀ J us es F' H', us.length = es.length → StT K B F' H' σ τ1 (us ++ vs) (es ++ ds) → ItOk K B J items (us ++ vs) (es ++ ds) → R J H') (exW K B W σ vs ds) (m τ)
theorem PI.imp {tg it : Expr} {t t' : TI} (h : PI X tg it t) (k : ∀ σ H R, t' σ H R → t σ H R) : PI X tg it t' := ⟨fun p s σ H R I q => h.run p s σ H R I (k _ _ _ q)⟩
def iL (m : ME) : MA := fun τ => (m τ).bind fun d τ1 => match freeze d with
  | .lst _ es => .ok es τ1
  | _ => .bad
theorem freeze_fz : ∀ d : D, isFz (freeze d) = true
  | .lst true _ => rfl | .lst false _ => rfl | .obj true _ _ _ => rfl | .obj false _ _ _ => rfl
  | .non => rfl | .bl _ => rfl | .int _ => rfl | .str _ => rfl | .ty _ => rfl | .tup _ => rfl | .cst _ => rfl | .val _ => rfl | .tpo _ => rfl | .dct true _ _ => rfl | .dct false _ _ => rfl
theorem StT.freeze1 {K : PySem.W.Frag} {F H : Hp} {σ : L2.St} {τ : Env} {vs : List V} {ds : List D} {v : V} {d : D} (s : StT K B F H σ τ (v :: vs) (d :: ds)) : ∃ F', StT K B F' H σ τ (v :: vs) (Bn.freeze d :: ds) := by
  obtain ⟨F2, sm, ⟨_, _, e2, r, _⟩, s2⟩ := StT.freeze (us := [v]) (es := [d]) s rfl
  cases e2
  exact ⟨F2, s2.push r⟩
theorem itOk_list {K : PySem.W.Frag} {a : Addr} {es : List D} {vs : List V} {ds : List D} : ItOk K B (Itl K a) es (.ref a :: vs) (.lst false es :: ds) := by
  have look : ∀ {F H σ τ}, StT K B F H σ τ (.ref a :: vs) (.lst false es :: ds) → ∃ us, SqL K H a us ∧ RepL K B.ca F es us := fun {F H σ τ} s => by
    obtain ⟨a', us, e, h1, h2⟩ := s.topF rfl
    cases e
    exact ⟨us, sqOf (s.same _ _ h1), h2⟩
  refine ⟨fun i F H σ τ s hi => ?_, fun F H σ τ s => ?_, fun i d F H σ τ x H' us' es' hl hd s y => ?_⟩
  · obtain ⟨us, h1, h2⟩ := look s
    exact ⟨us, us[i]'(by rw [h2.length]; exact hi), h1, by simp [h2.length, hi]⟩
  · obtain ⟨us, h1, h2⟩ := look s
    exact ⟨us, h1, by rw [h2.length]; exact Nat.le_refl _⟩
  · obtain ⟨rfl, y⟩ := y
    obtain ⟨us, h1, h2⟩ := look (s.pops hl)
    obtain ⟨v, e, r⟩ := h2.get hd
    rw [y us h1] at e; cases e
    exact ⟨F, s.push r⟩
theorem itOk_tup {K : PySem.W.Frag} {a : Addr} {es : List D} {vs : List V} {ds : List D} : ItOk K B (Itt K a) es (.ref a :: vs) (.tup es :: ds) := by
  have look : ∀ {F H σ τ}, StT K B F H σ τ (.ref a :: vs) (.tup es :: ds) → ∃ us, SqT K H a us ∧ RepL K B.ca F es us := fun {F H σ τ} s => by
    obtain ⟨a', us, e, h1, h2⟩ := s.topF rfl
    cases e
    exact ⟨us, sqT_same s.same h1, h2⟩
  refine ⟨fun i F H σ τ s hi => ?_, fun F H σ τ s => ?_, fun i d F H σ τ x H' us' es' hl hd s y => ?_⟩
  · obtain ⟨us, h1, h2⟩ := look s
    exact ⟨us, us[i]'(by rw [h2.length]; exact hi), h1, by simp [h2.length, hi]⟩
  · obtain ⟨us, h1, h2⟩ := look s
    exact ⟨us, h1, by rw [h2.length]; exact Nat.le_refl _⟩
  · obtain ⟨rfl, y⟩ := y
    obtain ⟨us, h1, h2⟩ := look (s.pops hl)
    obtain ⟨v, e, r⟩ := h2.get hd
    rw [y us h1] at e; cases e
    exact ⟨F, s.push r⟩
def enumD : Nat → List D → List D
  | _, [] => []
  | i, d :: ds => .tup [.int (i : Nat), d] :: enumD (i + 1) ds
theorem enumD_len : ∀ (i : Nat) (ds : List D), (enumD i ds).length = ds.length
  | _, [] => rfl
  | i, d :: ds => by show (enumD (i + 1) ds).length + 1 = ds.length + 1; rw [enumD_len]
theorem enumD_get : ∀ (i j : Nat) (ds : List D), (enumD i ds)[j]? = ds[j]?.map fun d => .tup [.int ((i + j : Nat) : Int), d]
  | _, j, [] => by simp [enumD]
  | i, 0, d :: ds => by simp [enumD]
  | i, j + 1, d :: ds => by
    show (enumD (i + 1) ds)[j]? = _
    rw [enumD_get (i + 1) j ds]
    simp [Nat.add_assoc, Nat.add_comm 1 j]
theorem itOk_enum {K : PySem.W.Frag} {a : Addr} {es : List D} {vs : List V} {ds : List D} : ItOk K B (Ite K a) (enumD 0 es) (.ref a :: vs) (.lst false es :: ds) := by
  have look : ∀ {F H σ τ}, StT K B F H σ τ (.ref a :: vs) (.lst false es :: ds) → ∃ us, SqL K H a us ∧ RepL K B.ca F es us := fun {F H σ τ} s => by
    obtain ⟨a', us, e, h1, h2⟩ := s.topF rfl
    cases e
    exact ⟨us, sqOf (s.same _ _ h1), h2⟩
  refine ⟨fun i F H σ τ s hi => ?_, fun F H σ τ s => ?_, fun i d F H σ τ x H' us' es' hl hd s y => ?_⟩
  · obtain ⟨us, h1, h2⟩ := look s
    rw [enumD_len] at hi
    exact ⟨us, us[i]'(by rw [h2.length]; exact hi), h1, by simp [h2.length, hi]⟩
  · obtain ⟨us, h1, h2⟩ := look s
    exact ⟨us, h1, by rw [enumD_len, h2.length]; exact Nat.le_refl _⟩
  · obtain ⟨T, x', rfl, hT, rfl, y⟩ := y
    obtain ⟨us, h1, h2⟩ := look (s.pops hl)
    rw [enumD_get] at hd
    cases e : es[i]? with
    | none => rw [e] at hd; cases hd
    | some d' =>
      rw [e] at hd
      obtain ⟨v, ev, r⟩ := h2.get e
      rw [y us h1] at ev; cases ev
      have hd' : D.tup [.int ((0 + i : Nat) : Int), d'] = d := Option.some.inj hd
      subst hd'
      rw [Nat.zero_add]
      exact ⟨_, s.newTup hT ⟨.int (i : Nat), [x'], rfl, rfl, x', [], rfl, r, rfl⟩⟩
def zipD : List D → List D → List D
  | x :: xs, y :: ys => .tup [x, y] :: zipD xs ys
  | _, _ => []
theorem zipD_len : ∀ xs ys : List D, (zipD xs ys).length = min xs.length ys.length
  | [], ys => by simp [zipD]
  | x :: xs, [] => by simp [zipD]
  | x :: xs, y :: ys => by
    show (zipD xs ys).length + 1 = min (xs.length + 1) (ys.length + 1)
    rw [zipD_len]; omega
theorem zipD_get : ∀ (i : Nat) (xs ys : List D) (d : D), (zipD xs ys)[i]? = some d → ∃ x y, xs[i]? = some x ∧ ys[i]? = some y ∧ d = .tup [x, y]
  | _, [], ys, d, h => by simp [zipD] at h
  | _, x :: xs, [], d, h => by simp [zipD] at h
  | 0, x :: xs, y :: ys, d, h => ⟨x, y, rfl, rfl, (Option.some.inj h).symm⟩
  | i + 1, x :: xs, y :: ys, d, h => by simpa using zipD_get i xs ys d h
theorem itOk_zip {K : PySem.W.Frag} {a b : Addr} {es fs : List D} {vs : List V} {ds : List D} : ItOk K B (Itz K a b) (zipD es fs) (.ref b :: .ref a :: vs) (.lst false fs :: .lst false es :: ds) := by
  have look : ∀ {F H σ τ}, StT K B F H σ τ (.ref b :: .ref a :: vs) (.lst false fs :: .lst false es :: ds) → ∃ us ws, SqL K H a us ∧ RepL K B.ca F es us ∧ SqL K H b ws ∧ RepL K B.ca F fs ws := fun {F H σ τ} s => by
    obtain ⟨a', us, e, h1, h2⟩ := s.topF rfl
    obtain ⟨a'', ws, e', h1', h2'⟩ := s.pop.topF rfl
    cases e; cases e'
    exact ⟨ws, us, sqOf (s.same _ _ h1'), h2', sqOf (s.same _ _ h1), h2⟩
  refine ⟨fun i F H σ τ s hi => ?_, fun F H σ τ s => ?_, fun i d F H σ τ x H' us' es' hl hd s y => ?_⟩
  · obtain ⟨us, ws, h1, h2, h3, h4⟩ := look s
    rw [zipD_len] at hi
    have i1 : i < us.length := by rw [h2.length]; omega
    have i2 : i < ws.length := by rw [h4.length]; omega
    exact ⟨us, ws, us[i], ws[i], h1, h3, by simp [i1], by simp [i2]⟩
  · obtain ⟨us, ws, h1, h2, h3, h4⟩ := look s
    refine ⟨us, ws, h1, h3, ?_⟩
    rw [zipD_len, h2.length, h4.length]; omega
  · obtain ⟨T, x', y', rfl, hT, rfl, y1, y2⟩ := y
    obtain ⟨us, ws, h1, h2, h3, h4⟩ := look (s.pops hl)
    obtain ⟨d1, d2, g1, g2, rfl⟩ := zipD_get i es fs d hd
    obtain ⟨v1, k1, r1⟩ := h2.get g1
    obtain ⟨v2, k2, r2⟩ := h4.get g2
    rw [y1 us h1] at k1; cases k1
    rw [y2 ws h3] at k2; cases k2
    exact ⟨_, s.newTup hT ⟨x', [y'], rfl, r1, y', [], rfl, r2, rfl⟩⟩
theorem itOk_rev {K : PySem.W.Frag} {a : Addr} {es : List D} {vs : List V} {ds : List D} {n : Nat} (hn : n = es.length) : ItOk K B (Itv K a n) es.reverse (.ref a :: vs) (.lst false es :: ds) := by
  subst hn
  have look : ∀ {F H σ τ}, StT K B F H σ τ (.ref a :: vs) (.lst false es :: ds) → ∃ us, SqL K H a us ∧ RepL K B.ca F es us := fun {F H σ τ} s => by
    obtain ⟨a', us, e, h1, h2⟩ := s.topF rfl
    cases e
    exact ⟨us, sqOf (s.same _ _ h1), h2⟩
  refine ⟨fun i F H σ τ s hi => ?_, fun F H σ τ s => ?_, fun i d F H σ τ x H' us' es' hl hd s y => ?_⟩
  · obtain ⟨us, h1, h2⟩ := look s
    rw [List.length_reverse] at hi
    have i2 : es.length - 1 - i < us.length := by rw [h2.length]; omega
    exact ⟨hi, us, us[es.length - 1 - i], h1, by simp [i2]⟩
  · show es.length ≤ es.reverse.length
    rw [List.length_reverse]; exact Nat.le_refl _
  · obtain ⟨rfl, y⟩ := y
    obtain ⟨us, h1, h2⟩ := look (s.pops hl)
    have hi : i < es.length := by
      have := (List.getElem?_eq_some_iff.mp hd).1
      rwa [List.length_reverse] at this
    rw [List.getElem?_reverse hi] at hd
    obtain ⟨v, e, r⟩ := h2.get hd
    rw [y us h1] at e; cases e
    exact ⟨F, s.push r⟩
def rangeD (lo : Int) (n : Nat) : List D := (List.range n).map fun k => D.int (lo + (k : Nat))
theorem itOk_range {K : PySem.W.Frag} {lo : Int} {n : Nat} {vs : List V} {ds : List D} : ItOk K B (Itr lo n) (rangeD lo n) vs ds := by
  refine ⟨fun i F H σ τ s hi => ?_, fun F H σ τ s => ?_, fun i d F H σ τ x H' us' es' hl hd s y => ?_⟩
  · show i < n; simpa [rangeD] using hi
  · show n ≤ (rangeD lo n).length; simp [rangeD]
  · obtain ⟨rfl, rfl⟩ := y
    have hi : i < n := by simpa [rangeD] using (List.getElem?_eq_some_iff.mp hd).1
    have e : d = .int (lo + (i : Nat)) := by
      unfold rangeD at hd
      rw [List.getElem?_map, List.getElem?_range hi] at hd
      exact (Option.some.inj hd).symm
    subst e
    exact ⟨F, s.push (d := .int _) rfl⟩
def strD (s : Str) : List D := s.cps.toList.map fun c => D.str ⟨#[c]⟩
theorem itOk_str {K : PySem.W.Frag} {z : Str} {vs : List V} {ds : List D} : ItOk K B (Its z) (strD z) vs ds := by
  refine ⟨fun i F H σ τ s hi => ?_, fun F H σ τ s => ?_, fun i d F H σ τ x H' us' es' hl hd s y => ?_⟩
  · show i < z.cps.size; simpa [strD] using hi
  · show z.cps.size ≤ (strD z).length; simp [strD]
  · obtain ⟨rfl, c, hc, rfl⟩ := y
    have e : d = .str ⟨#[c]⟩ := by
      unfold strD at hd
      rw [List.getElem?_map, Array.getElem?_toList, hc] at hd
      exact (Option.some.inj hd).symm
    subst e
    exact ⟨F, s.push (d := .str _) rfl⟩

theorem i_list {tg l : Expr} {m : ME} (hl : PE X l (rdE X.K B W m)) : PI X tg l (rdI X.K B W (iL m)) := PI.imp (pi_list hl) fun σ H R ⟨F, τ, vs, ds, s, p⟩ => by
  refine ⟨F, τ, vs, ds, s, post_imp (post_bind p) (fun d τ1 q v F1 H1 s1 => ?_) fun _ _ q => q⟩
  obtain ⟨F2, s2⟩ := s1.freeze1
  have hz := freeze_fz d
  cases e : freeze d with
  | lst m es =>
    cases m with
    | true => rw [e] at hz; cases hz
    | false =>
      simp only [e] at q
      rw [e] at s2
      obtain ⟨a, us, ev, h1, h2⟩ := s2.topF rfl
      subst ev
      exact ⟨a, rfl, ⟨us, sqOf (s2.same _ _ h1)⟩, q (Itl X.K a) [.ref a] [.lst false es] F2 H1 rfl s2 itOk_list⟩
  | _ => simp only [e] at q; exact False.elim q
def iT (m : ME) : MA := fun τ => (m τ).bind fun d τ1 => match d with
  | .tup es => .ok es τ1
  | _ => .bad
theorem i_tup {tg l : Expr} {m : ME} (hl : PE X l (rdE X.K B W m)) : PI X tg l (rdI X.K B W (iT m)) := PI.imp (pi_tup hl) fun σ H R ⟨F, τ, vs, ds, s, p⟩ => by
  refine ⟨F, τ, vs, ds, s, post_imp (post_bind p) (fun d τ1 q v F1 H1 s1 => ?_) fun _ _ q => q⟩
  cases d with
  | tup es =>
    obtain ⟨a, us, ev, h1, h2⟩ := s1.topF rfl
    subst ev
    exact ⟨a, rfl, ⟨us, sqT_same s1.same h1⟩, q (Itt X.K a) [.ref a] [.tup es] F1 H1 rfl s1 itOk_tup⟩
  | _ => exact False.elim q
def iS (m : ME) : MA := fun τ => (m τ).bind fun d τ1 => match d with
  | .str z => .ok (strD z) τ1
  | _ => .bad
theorem i_str {tg l : Expr} {m : ME} (hl : PE X l (rdE X.K B W m)) : PI X tg l (rdI X.K B W (iS m)) := PI.imp (pi_str hl) fun σ H R ⟨F, τ, vs, ds, s, p⟩ => by
  refine ⟨F, τ, vs, ds, s, post_imp (post_bind p) (fun d τ1 q v F1 H1 s1 => ?_) fun _ _ q => q⟩
  cases d with
  | str z => exact ⟨z, s1.topF rfl, q (Its z) [] [] F1 H1 rfl s1.pop itOk_str⟩
  | _ => exact False.elim q
def iR1 (m : MA) : MA := fun τ => (m τ).bind fun ds τ1 => match ds with
  | [.int j] => if -(2 ^ 62) ≤ j ∧ j < 2 ^ 62 then .ok (rangeD 0 j.toNat) τ1 else .bad
  | _ => .bad
def iR2 (m : MA) : MA := fun τ => (m τ).bind fun ds τ1 => match ds with
  | [.int i, .int j] => if -(2 ^ 62) ≤ i ∧ i < 2 ^ 62 ∧ -(2 ^ 62) ≤ j ∧ j < 2 ^ 62 then .ok (rangeD i (j - i).toNat) τ1 else .bad
  | _ => .bad
theorem i_range1 {tg a : Expr} {p pos : Pos} {m : MA} (hg : Gl X "range") (hm : X.mg "range" = none) (ha : PA X [a] (rdA X.K B W m)) (hs : starEach [a] X.env = [(false, eval a X.env)] := by rfl) : PI X tg (.Call (.Name "range" p) [a] [] pos) (rdI X.K B W (iR1 m)) := PI.imp (pi_range1 hg hm ha hs) fun σ H R ⟨F, τ, vs, ds, s, p⟩ => by
  refine ⟨F, τ, vs, ds, s, post_imp (post_bind p) (fun es τ1 q us F1 H1 hl s1 => ?_) fun _ _ q => q⟩
  have g := s1.pops hl
  match es, q, s1, hl with
  | [.int j], q, s1, hl =>
    match us, s1, hl with
    | [v], s1, _ =>
      cases (show v = .int j from s1.topF rfl)
      by_cases z : -(2 ^ 62) ≤ j ∧ j < 2 ^ 62
      · simp only [z, and_self, if_true] at q
        exact ⟨j, rfl, z.1, z.2, q (Itr 0 j.toNat) [] [] F1 H1 rfl g itOk_range⟩
      · simp only [z, if_false] at q; exact False.elim q
theorem i_range2 {tg a b : Expr} {p pos : Pos} {m : MA} (hg : Gl X "range") (hm : X.mg "range" = none) (ha : PA X [a, b] (rdA X.K B W m)) (hs : starEach [a, b] X.env = [(false, eval a X.env), (false, eval b X.env)] := by rfl) (hs2 : starEach [b] X.env = [(false, eval b X.env)] := by rfl) :
    PI X tg (.Call (.Name "range" p) [a, b] [] pos) (rdI X.K B W (iR2 m)) := PI.imp (pi_range2 hg hm ha hs hs2) fun σ H R ⟨F, τ, vs, ds, s, p⟩ => by
  refine ⟨F, τ, vs, ds, s, post_imp (post_bind p) (fun es τ1 q us F1 H1 hl s1 => ?_) fun _ _ q => q⟩
  have g := s1.pops hl
  match es, q, s1, hl with
  | [.int i, .int j], q, s1, hl =>
    match us, s1, hl with
    | [u, v], s1, _ =>
      cases (show u = .int i from s1.topF rfl)
      cases (show v = .int j from s1.pop.topF rfl)
      by_cases z : -(2 ^ 62) ≤ i ∧ i < 2 ^ 62 ∧ -(2 ^ 62) ≤ j ∧ j < 2 ^ 62
      · simp only [z, and_self, if_true] at q
        exact ⟨i, j, rfl, z, q (Itr i (j - i).toNat) [] [] F1 H1 rfl g itOk_range⟩
      · simp only [z, if_false] at q; exact False.elim q
def iE (m : MA) : MA := fun τ => (m τ).bind fun ds τ1 => match freezeL ds with
  | [.lst _ es] => .ok (enumD 0 es) τ1
  | _ => .bad
def iV (m : MA) : MA := fun τ => (m τ).bind fun ds τ1 => match freezeL ds with
  | [.lst _ es] => .ok es.reverse τ1
  | _ => .bad
def iZ (m : MA) : MA := fun τ => (m τ).bind fun ds τ1 => match freezeL ds with
  | [.lst _ es, .lst _ fs] => .ok (zipD es fs) τ1
  | _ => .bad
theorem StT.pushL {K : PySem.W.Frag} {F H : Hp} {σ : L2.St} {τ : Env} {vs us : List V} {ds es : List D} (s : StT K B F H σ τ vs ds) (h : RepL K B.ca F es us) : StT K B F H σ τ (us ++ vs) (es ++ ds) := by
  obtain ⟨f1, f2, A, b, w, io⟩ := s
  have b2 := (h.os (H := H)).append b
  have e3 : (fun b => 0 + f2 b) = f2 := funext fun b => by omega
  rw [e3] at b2
  exact ⟨f1, f2, A, b2, w, io⟩
theorem i_enum {e : Expr} {p pos tpos : Pos} {elts : List Expr} {kk : Nat} {m : MA} (hg : Gl X "enumerate") (hm : X.mg "enumerate" = none) (ha : PA X [e] (rdA X.K B W m)) (hs : starEach [e] X.env = [(false, eval e X.env)] := by rfl) :
    PI X (.Tuple elts kk tpos) (.Call (.Name "enumerate" p) [e] [] pos) (rdI X.K B W (iE m)) := PI.imp (pi_enum hg hm ha hs) fun σ H R ⟨F, τ, vs, ds, s, p⟩ => by
  refine ⟨F, τ, vs, ds, s, post_imp (post_bind p) (fun es τ1 q us F1 H1 hl s1 => ?_) fun _ _ q => q⟩
  obtain ⟨F2, sm, rl, s2⟩ := s1.freeze hl
  match h : freezeL es, q, rl with
  | [.lst b xs], q, rl =>
    obtain ⟨v, r, rfl, r1, r2⟩ := rl
    cases (show r = [] from r2)
    cases b with
    | true => exact r1.elim
    | false =>
      have s3 := s2.push r1
      obtain ⟨a, ws, rfl, h1, h2⟩ := r1
      exact ⟨a, ws, rfl, sqOf (s2.same _ _ h1), q (Ite X.K a) [.ref a] [.lst false xs] F2 H1 rfl s3 itOk_enum⟩
theorem i_rev {tg e : Expr} {p pos : Pos} {m : MA} (hg : Gl X "reversed") (hm : X.mg "reversed" = none) (ha : PA X [e] (rdA X.K B W m)) (hs : starEach [e] X.env = [(false, eval e X.env)] := by rfl) :
    PI X tg (.Call (.Name "reversed" p) [e] [] pos) (rdI X.K B W (iV m)) := PI.imp (pi_reversed hg hm ha hs) fun σ H R ⟨F, τ, vs, ds, s, p⟩ => by
  refine ⟨F, τ, vs, ds, s, post_imp (post_bind p) (fun es τ1 q us F1 H1 hl s1 => ?_) fun _ _ q => q⟩
  obtain ⟨F2, sm, rl, s2⟩ := s1.freeze hl
  match h : freezeL es, q, rl with
  | [.lst b xs], q, rl =>
    obtain ⟨v, r, rfl, r1, r2⟩ := rl
    cases (show r = [] from r2)
    cases b with
    | true => exact r1.elim
    | false =>
      have s3 := s2.push r1
      obtain ⟨a, ws, rfl, h1, h2⟩ := r1
      exact ⟨a, ws, rfl, sqOf (s2.same _ _ h1), q (Itv X.K a ws.length) [.ref a] [.lst false xs] F2 H1 rfl s3 (itOk_rev h2.length)⟩
theorem i_zip {e e2 : Expr} {p pos tpos : Pos} {elts : List Expr} {kk : Nat} {m : MA} (hg : Gl X "zip") (hm : X.mg "zip" = none) (ha : PA X [e, e2] (rdA X.K B W m))
    (hs : starEach [e, e2] X.env = (false, eval e X.env) :: starEach [e2] X.env := by rfl) (hpl : (backTo pos (starEach [e2] X.env)).any (·.1) = false := by rfl) :
    PI X (.Tuple elts kk tpos) (.Call (.Name "zip" p) [e, e2] [] pos) (rdI X.K B W (iZ m)) := PI.imp (pi_zip hg hm ha hs hpl) fun σ H R ⟨F, τ, vs, ds, s, p⟩ => by
  refine ⟨F, τ, vs, ds, s, post_imp (post_bind p) (fun es τ1 q us F1 H1 hl s1 => ?_) fun _ _ q => q⟩
  obtain ⟨F2, sm, rl, s2⟩ := s1.freeze hl
  match h : freezeL es, q, rl with
  | [.lst b xs, .lst b2 ys], q, rl =>
    obtain ⟨v, r, rfl, r1, v2, r', rfl, r2, r3⟩ := rl
    cases (show r' = [] from r3)
    cases b with
    | true => exact r1.elim
    | false =>
      cases b2 with
      | true => exact r2.elim
      | false =>
        have s3 := (s2.push r1).push r2
        obtain ⟨a, ws, rfl, h1, h2⟩ := r1
        obtain ⟨a', ws', rfl, h1', h2'⟩ := r2
        exact ⟨a, a', ws, ws', rfl, sqOf (s2.same _ _ h1), sqOf (s2.same _ _ h1'), q (Itz X.K a a') [.ref a', .ref a] [.lst false ys, .lst false xs] F2 H1 rfl s3 itOk_zip⟩
end
end Bn

/-! Loops, comprehensions; a def by its function. -/
namespace Bn
open PySem PySem.Spec PyProof.Rows L2

/-! ### for, while -/
def forL (g : D → Env → Option Env) (b : MS) : List D → Env → SR
  | [], τ => .nx τ
  | d :: r, τ => match g d τ with
    | none => .bad
    | some τ1 => match b τ1 with
      | .nx τ2 => forL g b r τ2
      | .ct τ2 => forL g b r τ2
      | .bk τ2 => .nx τ2
      | .rt d τ2 => .rt d τ2
      | .ex c τ2 => .ex c τ2
      | .bad => .bad
def sFor (m : MA) (g : D → Env → Option Env) (b : MS) : MS := fun τ => (m τ).s fun items τ1 => forL g b items τ1
def whileM (c : MT) (b : MS) : Nat → Env → SR
  | 0, _ => .bad
  | n + 1, τ => match c τ with
    | .ok true τ1 => (match b τ1 with
      | .nx τ2 => whileM c b n τ2
      | .ct τ2 => whileM c b n τ2
      | .bk τ2 => .nx τ2
      | .rt d τ2 => .rt d τ2
      | .ex e τ2 => .ex e τ2
      | .bad => .bad)
    | .ok false τ1 => .nx τ1
    | .ex e τ1 => .ex e τ1
    | .bad => .bad
def sWhile (fuel : Env → Nat) (c : MT) (b : MS) : MS := fun τ => whileM c b (fuel τ) τ
section
variable {X : Cx} {B : Bx} {W : WX}
theorem postS_pops {K : PySem.W.Frag} {us vs : List V} {es ds : List D} {D' : Ends} {r : SR} (hl : us.length = es.length) (h : postS K B W vs ds D' r) : postS K B W (us ++ vs) (es ++ ds) D' r := by
  cases r with
  | nx τ => exact fun σ F H s => h σ F H (s.pops hl)
  | rt d τ => exact fun v σ F H s => h v σ F H (StT.pops (us := us) (es := es) (by
      obtain ⟨f1, f2, A, ⟨v', r', g1, g2, e, b1, b2, q⟩, w, io⟩ := s
      cases e
      obtain ⟨g3, g4, c1, c2, q2⟩ := b2.split' hl
      exact ⟨f1, f2, A, c1.append (us := v :: vs) (es := d :: ds) (g := fun b => g1 b + g4 b) ⟨v, vs, g1, g4, rfl, b1, c2, fun _ => rfl⟩ |> fun z => by
        have e : (fun b => g3 b + (g1 b + g4 b)) = f2 := funext fun b => by rw [q, q2]; omega
        rw [e] at z; exact z, w, io⟩) hl)
  | bk τ => exact fun σ F H s => h σ F H (s.pops hl)
  | ct τ => exact fun σ F H s => h σ F H (s.pops hl)
  | ex c τ => exact fun σ F H s => h σ F H (s.pops hl)
  | bad => exact h
theorem for_core {J : It} {items : List D} {tv : List V} {td : List D} {g : D → Env → Option Env} {sl : List Nat} {b : MS} {K : PySem.W.Frag} {σ : L2.St} {H F : Hp} {τ : Env} {D' : Ends} (ok : ItOk K B J items tv td) (s : StT K B F H σ τ tv td) (p : postS K B W tv td D' (forL g b items τ)) :
    ∃ W' : Nat → Nat → L2.St → Hp → Prop, (∃ m, W' 0 m σ H) ∧ ∀ i m σ H, W' i m σ H → (J.stop i H ∧ D'.nx σ H) ∨ (J.go i H ∧ ∃ N : L2.St → Hp → Prop, (∀ σ' H', N σ' H' → ∃ m', m' < m ∧ W' (i + 1) m' σ' H') ∧
      ∀ x H', J.yld i H x H' → rdG K B sl g x σ H' fun σ2 H2 => rdS K B W b { D' with nx := N, ct := N, bk := D'.nx } σ2 H2) := by
  refine ⟨fun i m σ H => m = items.length - i ∧ i ≤ items.length ∧ ∃ F τ, StT K B F H σ τ tv td ∧ postS K B W tv td D' (forL g b (items.drop i) τ), ⟨_, rfl, Nat.zero_le _, F, τ, s, p⟩, ?_⟩
  rintro i m σ H ⟨rfl, hi, F, τ, s, p⟩
  by_cases h : i < items.length
  · refine .inr ⟨ok.go i F H σ τ s h, fun σ' H' => ∃ F τ, StT K B F H' σ' τ tv td ∧ postS K B W tv td D' (forL g b (items.drop (i + 1)) τ), fun σ' H' ⟨F', τ', s', p'⟩ => ⟨items.length - (i + 1), by omega, rfl, h, F', τ', s', p'⟩, fun x H' y => ?_⟩
    have e : items[i]? = some items[i] := by simp [h]
    obtain ⟨F', s'⟩ := ok.y i _ F H σ τ x H' [] [] rfl e s y
    rw [List.drop_eq_getElem_cons h] at p
    unfold forL at p
    cases eg : g items[i] τ with
    | none => rw [eg] at p; exact p.elim
    | some τ1 =>
      rw [eg] at p
      refine ⟨F', τ, tv, td, _, s', τ1, eg, fun σ2 F2 H2 s2 _ _ => ⟨F2, τ1, tv, td, s2, ?_⟩⟩
      cases eb : b τ1 with
      | nx τ2 => simp only [eb] at p; exact fun σ3 F3 H3 s3 => ⟨F3, τ2, s3, p⟩
      | ct τ2 => simp only [eb] at p; exact fun σ3 F3 H3 s3 => ⟨F3, τ2, s3, p⟩
      | bk τ2 => simp only [eb] at p; exact p
      | rt d τ2 => simp only [eb] at p; exact p
      | ex c τ2 => simp only [eb] at p; exact p
      | bad => simp only [eb] at p; exact p
  · have e : i = items.length := by omega
    subst e
    rw [List.drop_length] at p
    exact .inl ⟨ok.st F H σ τ s, p σ F H s⟩
theorem s_for {tg it : Expr} {body : List Stmt} {pos : Pos} {m : MA} {sl : List Nat} {g : D → Env → Option Env} {b : MS} (c : XOk X W) (hi : PI X tg it (rdI X.K B W m)) (hg : PG X tg (rdG X.K B sl g)) (hb : PSs X body (rdS X.K B W b))
    (hs : ∀ x, foldedSetIterable it X.env x = pure x := by intro _; rfl) : PS X (.For tg it body [] pos) (rdS X.K B W (sFor m g b)) := PS.imp (ps_for c.hp c.calm hi hg hb hs) fun D' σ H ⟨F, τ, vs, ds, s, p⟩ =>
  ⟨F, τ, vs, ds, s, post_imp (post_s (σ := σ) p) (fun items τ1 q J us es F' H' hl s' ok => for_core ok s' (postS_pops hl q)) fun _ _ q => q⟩
theorem s_while {c : Expr} {body : List Stmt} {pos : Pos} {t : MT} {b : MS} (k : XOk X W) (fuel : Env → Nat) (hc : PT X c (rdT X.K B W t)) (hb : PSs X body (rdS X.K B W b)) : PS X (.While c body [] pos) (rdS X.K B W (sWhile fuel t b)) := PS.imp (ps_while k.hp hc hb) fun D' σ H ⟨F, τ, vs, ds, s, p⟩ => by
  refine ⟨fun m σ H => ∃ F τ, StT X.K B F H σ τ vs ds ∧ postS X.K B W vs ds D' (whileM t b m τ), ⟨_, F, τ, s, p⟩, ?_⟩
  rintro m σ H ⟨F, τ, s, p⟩
  cases m with
  | zero => exact False.elim p
  | succ m =>
    unfold whileM at p
    refine ⟨F, τ, vs, ds, s, ?_⟩
    cases et : t τ with
    | bad => rw [et] at p; exact p
    | ex e τ1 => rw [et] at p; exact fun F1 H1 s1 => p σ F1 H1 s1
    | ok x τ1 =>
      rw [et] at p
      intro F1 H1 s1
      cases x with
      | false => exact p σ F1 H1 s1
      | true =>
        refine ⟨fun σ' H' => ∃ F τ, StT X.K B F H' σ' τ vs ds ∧ postS X.K B W vs ds D' (whileM t b m τ), fun σ' H' ⟨F', τ', s', p'⟩ => ⟨m, Nat.lt_succ_self m, F', τ', s', p'⟩, F1, τ1, vs, ds, s1, ?_⟩
        cases eb : b τ1 with
        | nx τ2 => simp only [eb] at p; exact fun σ3 F3 H3 s3 => ⟨F3, τ2, s3, p⟩
        | ct τ2 => simp only [eb] at p; exact fun σ3 F3 H3 s3 => ⟨F3, τ2, s3, p⟩
        | bk τ2 => simp only [eb] at p; exact p
        | rt d τ2 => simp only [eb] at p; exact p
        | ex c τ2 => simp only [eb] at p; exact p
        | bad => simp only [eb] at p; exact p

/-! ### list comprehensions -/
def wipeE (τ : Env) : List Nat → Env
  | [] => τ
  | v :: vs => (wipeE τ vs).set v none
def lcL (own : List Nat) (g : D → Env → Option Env) (t : MT) (m : ME) : List D → List D → Env → R (List D)
  | [], acc, τ => .ok acc τ
  | d :: r, acc, τ => match g d τ with
    | none => .bad
    | some τ1 => (t τ1).bind fun b τ2 => if b = true then (m τ2).bind fun e τ3 => if acc.length < 1000000 then lcL own g t m r (acc ++ [e]) (wipeE τ3 own) else .bad else lcL own g t m r acc (wipeE τ2 own)
def eLc (own : List Nat) (it : MA) (g : D → Env → Option Env) (t : MT) (m : ME) : ME := fun τ => (it τ).bind fun items τ1 => match lcL own g t m items [] (wipeE τ1 own) with
  | .ok acc τ2 => .ok (.lst true acc) τ2
  | _ => .bad
theorem Sl.reset {K : PySem.W.Frag} {ca : Str → Addr} {F H : Hp} : ∀ {τ : Env} {σ σ' : L2.St} {f : Ct}, Sl K ca F H τ σ f → σ'.length = σ.length → (∀ (j : Nat) (d : D), τ[j]? = some (some d) → σ'[j]? = σ[j]?) → Sl K ca F H τ σ' f
  | [], σ, σ', f, h, hl, k => by
    obtain ⟨rfl, h2⟩ := h
    exact ⟨List.eq_nil_of_length_eq_zero hl, h2⟩
  | none :: τ, _, σ', f, ⟨x, r, h1, h2⟩, hl, k => by
    subst h1
    cases σ' with
    | nil => cases hl
    | cons y r' => exact ⟨y, r', rfl, h2.reset (by simpa using hl) fun j d hj => by simpa using k (j + 1) d (by simpa using hj)⟩
  | some d :: τ, _, σ', f, ⟨v, r, f1, f2, h1, h2, h3, h4⟩, hl, k => by
    subst h1
    cases σ' with
    | nil => cases hl
    | cons y r' =>
      have e : some y = some (some v) := by simpa using k 0 d (by simp)
      cases e
      exact ⟨v, r', f1, f2, rfl, h2, h3.reset (by simpa using hl) fun j d hj => by simpa using k (j + 1) d (by simpa using hj), h4⟩
theorem wipe_out {σ : L2.St} {j : Nat} : ∀ {own : List Nat}, j ∉ own → (wipe σ own)[j]? = σ[j]?
  | [], _ => rfl
  | v :: vs, h => by
    unfold wipe
    rw [List.getElem?_set_ne (fun e => h (by simp [e]))]
    exact wipe_out fun z => h (List.mem_cons_of_mem _ z)
theorem wipeE_in {τ : Env} {j : Nat} {d : D} : ∀ {own : List Nat}, (wipeE τ own)[j]? = some (some d) → j ∉ own
  | [], _ => by simp
  | v :: vs, h => by
    unfold wipeE at h
    by_cases e : v = j
    · subst e
      by_cases hv : v < (wipeE τ vs).length
      · rw [List.getElem?_set_self hv] at h; cases h
      · rw [List.getElem?_eq_none (by simpa using hv)] at h; cases h
    · rw [List.getElem?_set_ne e] at h
      simp only [List.mem_cons, not_or]
      exact ⟨fun z => e z.symm, wipeE_in h⟩
theorem wipe_in {σ : L2.St} {j : Nat} : ∀ {own : List Nat}, j ∈ own → j < σ.length → (wipe σ own)[j]? = some none
  | [], h, _ => by simp at h
  | v :: vs, h, hl => by
    unfold wipe
    by_cases e : v = j
    · subst e; rw [List.getElem?_set_self (by rw [wipe_length]; exact hl)]
    · rw [List.getElem?_set_ne e]
      exact wipe_in (by rcases List.mem_cons.mp h with z | z; exact absurd z.symm e; exact z) hl
theorem wipe_eq {a b : L2.St} {own : List Nat} (hl : a.length = b.length) (h : ∀ j, j ∉ own → a[j]? = b[j]?) : wipe a own = wipe b own := by
  apply List.ext_getElem?
  intro j
  by_cases e : j ∈ own
  · by_cases hj : j < a.length
    · rw [wipe_in e hj, wipe_in e (by omega)]
    · rw [List.getElem?_eq_none (by rw [wipe_length]; omega), List.getElem?_eq_none (by rw [wipe_length]; omega)]
  · rw [wipe_out e, wipe_out e]; exact h j e
theorem wipe_wipe {σ : L2.St} {own : List Nat} : wipe (wipe σ own) own = wipe σ own := wipe_eq (wipe_length σ own) fun j h => wipe_out h
theorem StT.reset {K : PySem.W.Frag} {F H : Hp} {σ σ' : L2.St} {τ : Env} {vs : List V} {ds : List D} (s : StT K B F H σ τ vs ds) (hl : σ'.length = σ.length) (k : ∀ (j : Nat) (d : D), τ[j]? = some (some d) → σ'[j]? = σ[j]?) (io : IoOk B σ') : StT K B F H σ' τ vs ds := by
  obtain ⟨f1, f2, a, b, w, _⟩ := s
  exact ⟨f1, f2, a.reset hl k, b, w, io⟩
theorem StT.wipeE {K : PySem.W.Frag} {F H : Hp} {σ : L2.St} {τ : Env} {vs : List V} {ds : List D} (s : StT K B F H σ τ vs ds) : ∀ own : List Nat, StT K B F H σ (Bn.wipeE τ own) vs ds
  | [] => s
  | _ :: own => (s.wipeE own).forget
def ioFreeL (B : Bx) (own : List Nat) : Prop := ∀ p ∈ B.io, p.1 ∉ own
theorem StT.wiped {K : PySem.W.Frag} {F H : Hp} {σ : L2.St} {τ : Env} {vs : List V} {ds : List D} {own : List Nat} (s : StT K B F H σ τ vs ds) (hio : ioFreeL B own) : StT K B F H (wipe σ own) (Bn.wipeE τ own) vs ds := by
  have io : IoOk B σ := by obtain ⟨_, _, _, _, _, io⟩ := s; exact io
  exact (s.wipeE own).reset (wipe_length _ _) (fun j d h => wipe_out (wipeE_in h)) fun p hp => by rw [wipe_out (hio p hp)]; exact io p hp
theorem StT.unwiped {K : PySem.W.Frag} {F H : Hp} {σ : L2.St} {τ : Env} {vs : List V} {ds : List D} {own : List Nat} (s : StT K B F H (wipe σ own) (Bn.wipeE τ own) vs ds) (hio : ioFreeL B own) : StT K B F H σ (Bn.wipeE τ own) vs ds := by
  have io : IoOk B (wipe σ own) := by obtain ⟨_, _, _, _, _, io⟩ := s; exact io
  exact s.reset (wipe_length _ _).symm (fun j d h => (wipe_out (wipeE_in h)).symm) fun p hp => by rw [← wipe_out (hio p hp)]; exact io p hp
theorem wipeE_wipeE {τ : Env} {own : List Nat} : ∀ own2 : List Nat, (∀ j ∈ own2, j ∈ own) → Bn.wipeE (Bn.wipeE τ own) own2 = Bn.wipeE τ own
  | [], _ => rfl
  | v :: vs, h => by
    show (Bn.wipeE (Bn.wipeE τ own) vs).set v none = Bn.wipeE τ own
    rw [wipeE_wipeE vs fun j hj => h j (List.mem_cons_of_mem _ hj)]
    apply List.ext_getElem?
    intro j
    show ((Bn.wipeE τ own).set v none)[j]? = (Bn.wipeE τ own)[j]?
    rw [List.getElem?_set]
    split
    · rename_i e
      subst e
      split
      · cases e2 : (Bn.wipeE τ own)[v]? with
        | none => rw [List.getElem?_eq_none_iff] at e2; omega
        | some x =>
          cases x with
          | none => rfl
          | some d => exact absurd (h v List.mem_cons_self) (wipeE_in e2)
      · rename_i hl; rw [List.getElem?_eq_none (by omega)]
    · rfl
theorem lc_core' {J : It} {items : List D} {tv : List V} {td : List D} {g : D → Env → Option Env} {sl own : List Nat} {t : MT} {m : ME} {K : PySem.W.Frag} {σ : L2.St} {H F : Hp} {τ τ2 : Env} {acc2 : List D} {Q : VK} (ok : ItOk K B J items tv td) (hsl : ∀ j ∈ sl, j ∈ own) (hio : ioFreeL B own) (s : StT K B F H σ τ tv td)
    (e : lcL own g t m items [] (Bn.wipeE τ own) = .ok acc2 τ2) (k : ∀ v F H, StT K B F H σ τ2 (v :: tv) (.lst true acc2 :: td) → Q v H) : ∀ D, H D = none → ∃ W' : Nat → Nat → Hp → Prop, (∃ m, W' 0 m (upd H D (.lst []))) ∧ ∀ i n H, W' i n H →
      (J.stop i H ∧ Q (.ref D) H) ∨ (J.go i H ∧ ∃ Nx : Hp → Prop, (∀ H', Nx H' → ∃ m', m' < n ∧ W' (i + 1) m' H') ∧ ∀ x H', J.yld i H x H' → rdG K B sl g x (wipe σ own) H' fun σ2 H2 => wipe σ2 own = wipe σ own ∧ rdT K B W0 t σ2 H2 fun b H3 =>
        if b = true then rdE K B W0 m σ2 H3 fun y H4 => ∃ acc, H4 D = some (.lst acc) ∧ acc.length < sizeLine ∧ Nx (upd H4 D (.lst (acc ++ [y]))) else Nx H3) := by
  intro D hD
  have s0 : StT K B F (upd H D (.lst [])) σ τ (.ref D :: tv) (.lst true [] :: td) := s.newLst (us := []) (es := []) rfl hD
  have s1 := s0.wiped (own := own) hio
  -- the items are walked with the new list on top
  refine ⟨fun i n H => n = items.length - i ∧ i ≤ items.length ∧ ∃ F τ acc, StT K B F H (wipe σ own) (Bn.wipeE τ own) (.ref D :: tv) (.lst true acc :: td) ∧ lcL own g t m (items.drop i) acc (Bn.wipeE τ own) = .ok acc2 τ2, ⟨_, rfl, Nat.zero_le _, F, τ, [], s1, e⟩, ?_⟩
  rintro i n H ⟨rfl, hi, F, τ, acc, s, e⟩
  by_cases h : i < items.length
  · refine .inr ⟨ok.go i F H _ _ s.pop h, fun H' => ∃ F τ acc, StT K B F H' (wipe σ own) (Bn.wipeE τ own) (.ref D :: tv) (.lst true acc :: td) ∧ lcL own g t m (items.drop (i + 1)) acc (Bn.wipeE τ own) = .ok acc2 τ2,
      fun H' ⟨F', τ', acc', s', e'⟩ => ⟨items.length - (i + 1), by omega, rfl, h, F', τ', acc', s', e'⟩, fun x H' y => ?_⟩
    have ei : items[i]? = some items[i] := by simp [h]
    obtain ⟨F', s'⟩ := ok.y i _ F H _ _ x H' [.ref D] [.lst true acc] rfl ei s y
    rw [List.drop_eq_getElem_cons h] at e
    unfold lcL at e
    cases eg : g items[i] (Bn.wipeE τ own) with
    | none => rw [eg] at e; cases e
    | some τ1 =>
      rw [eg] at e
      refine ⟨F', _, _, _, _, s', τ1, eg, fun σ2 F2 H2 s2 l2 k2 => ⟨?_, F2, τ1, _, _, s2, ?_⟩⟩
      · rw [← wipe_wipe (σ := σ)]
        exact wipe_eq l2 fun j hj => k2 j fun z => hj (hsl j z)
      · have w2 : wipe σ2 own = wipe σ own := by
          rw [← wipe_wipe (σ := σ)]
          exact wipe_eq l2 fun j hj => k2 j fun z => hj (hsl j z)
        cases et : t τ1 with
        | bad => simp only [et, R.bind] at e; cases e
        | ex c τ3 => simp only [et, R.bind] at e; cases e
        | ok b τ3 =>
          simp only [et, R.bind] at e
          intro F3 H3 s3
          cases b with
          | false =>
            simp only [Bool.false_eq_true, if_false] at e
            rw [if_neg Bool.false_ne_true]
            have s4 := s3.wiped (own := own) hio
            rw [w2] at s4
            exact ⟨F3, τ3, acc, s4, e⟩
          | true =>
            simp only [if_true] at e
            rw [if_pos rfl]
            refine ⟨F3, τ3, _, _, s3, ?_⟩
            cases em : m τ3 with
            | bad => simp only [em] at e; cases e
            | ex c τ4 => simp only [em] at e; cases e
            | ok d τ4 =>
              simp only [em] at e
              intro v F4 H4 s4
              by_cases hacc : acc.length < 1000000
              · rw [if_pos hacc] at e
                obtain ⟨ff, q⟩ := s4.pop.top
                obtain ⟨a', vs', g', ea, hx, hg, hq⟩ := q
                cases ea
                refine ⟨vs', hx, ?_, F4, τ4, acc ++ [d], ?_, e⟩
                · rw [hg.length, sizeLine_eq]; omega
                · have s5 := (StT.swap (us := [v]) (es := [d]) s4 rfl).change (us := [v]) (ds := [d]) (ys := vs' ++ [v]) (es2 := acc ++ [d]) rfl hx fun g1 g2 r1 r2 => ⟨_, r1.append r2, fun b => Nat.le_refl _⟩
                  have s6 := s5.wiped (own := own) hio
                  rw [w2] at s6
                  exact s6
              · rw [if_neg hacc] at e; cases e
  · have ei : i = items.length := by omega
    subst ei
    rw [List.drop_length] at e
    cases (show R.ok acc (Bn.wipeE τ own) = R.ok acc2 τ2 from e)
    exact .inl ⟨ok.st F H _ _ s.pop, k _ F H (s.unwiped hio)⟩
end
end Bn

/-! Comprehensions; a def by its function; operators. -/
namespace Bn
open PySem PySem.Spec PyProof.Rows L2
section
variable {X : Cx} {B : Bx} {W : WX}
theorem StT.under {K : PySem.W.Frag} {F H : Hp} {σ : L2.St} {τ : Env} {vs us : List V} {ds es : List D} {v : V} {d : D} (s : StT K B F H σ τ (v :: (us ++ vs)) (d :: (es ++ ds))) (hl : us.length = es.length) : StT K B F H σ τ (v :: vs) (d :: ds) := by
  obtain ⟨f1, f2, A, ⟨v', r', g1, g2, e, b1, b2, q⟩, w, io⟩ := s
  cases e
  obtain ⟨g3, g4, c1, c2, q2⟩ := b2.split' hl
  exact ⟨f1, fun b => g1 b + g4 b, A, ⟨v, vs, g1, g4, rfl, b1, c2, fun _ => rfl⟩, w.less fun b => by show f1 b + (g1 b + g4 b) ≤ f1 b + f2 b; rw [q, q2]; omega, io⟩
theorem PTs.imp {e : List Expr} {t t' : TT} (h : PTs X e t) (k : ∀ σ H Q, t' σ H Q → t σ H Q) : PTs X e t' := ⟨fun p s σ H Q I q => h.run p s σ H Q I (k _ _ _ q)⟩
def tTrue : MT := fun τ => .ok true τ
theorem ts_nil : PTs X [] (rdT X.K B W tTrue) := PTs.imp pts_nil fun σ H Q ⟨F, τ, vs, ds, s, p⟩ => p F H s
theorem ts_one {c : Expr} {t : MT} (h : PT X c (rdT X.K B W t)) : PTs X [c] (rdT X.K B W t) := pts_one h
theorem impLc {own : List Nat} {it : MA} {g : D → Env → Option Env} {sl : List Nat} {t : MT} {m : ME} (hsl : ∀ j ∈ sl, j ∈ own) (hio : ioFreeL B own) (σ : L2.St) (H : Hp) (Q : VK) (h : rdE X.K B W (eLc own it g t m) σ H Q) : tLc (rdI X.K B W it) (rdG X.K B sl g) (rdT X.K B W0 t) (rdE X.K B W0 m) own σ H Q := by
  obtain ⟨F, τ, vs, ds, s, p⟩ := h
  refine ⟨F, τ, vs, ds, s, post_imp (post_bind p) (fun items τ1 q J us es F' H' hl s' ok => ?_) fun _ _ q => q⟩
  cases e : lcL own g t m items [] (Bn.wipeE τ1 own) with
  | ok acc τ2 =>
    simp only [e] at q
    exact lc_core' ok hsl hio s' e fun v F2 H2 s2 => q v F2 H2 (s2.under hl)
  | _ => simp only [e] at q; exact False.elim q
theorem e_lc {elt tg iter : Expr} {ifs : List Expr} {scope : Scope} {own : List (Str × Nat)} {pos : Pos} {it : MA} {g : D → Env → Option Env} {sl : List Nat} {t : MT} {m : ME} (c : XOk X W) (hN : X.N.Nodup) (hi : PI X tg iter (rdI X.K B W it)) (ok : BlkOk X.N X.env.scope scope own)
    (hg : ∀ (s : Shared) (H : Hp) (C : Addr) (cl : List (Str × Addr)) (fp : List Addr), PG (X.blk s H scope (compEnvC scope cl C X.env) fp) tg (rdG X.K B sl g)) (ht : ∀ (s : Shared) (H : Hp) (C : Addr) (cl : List (Str × Addr)) (fp : List Addr), PTs (X.blk s H scope (compEnvC scope cl C X.env) fp) ifs (rdT X.K B W0 t))
    (he : ∀ (s : Shared) (H : Hp) (C : Addr) (cl : List (Str × Addr)) (fp : List Addr), XOk (X.blk s H scope (compEnvC scope cl C X.env) fp) W0 → PE (X.blk s H scope (compEnvC scope cl C X.env) fp) elt (rdE X.K B W0 m))
    (hsl : ∀ j ∈ sl, j ∈ own.map (·.2) := by decide) (hio : ioFreeL B (own.map (·.2)) := by first | (intro p hp; cases hp; done) | (intro p hp; simp only [List.mem_cons, List.not_mem_nil, or_false] at hp; rcases hp with rfl | rfl <;> simp) | (intro p hp; simp only [List.mem_cons, List.not_mem_nil, or_false] at hp; rcases hp with rfl | rfl | rfl <;> simp) | (intro p hp; simp only [List.mem_cons, List.not_mem_nil, or_false] at hp; subst hp; simp)) (hs : ∀ x, foldedSetIterable iter X.env x = pure x := by intro _; rfl) :
    PE X (.ListComp elt [⟨tg, iter, ifs, 0⟩] scope pos) (rdE X.K B W (eLc (own.map (·.2)) it g t m)) :=
  PE.imp (pe_lc c.calm hN hi ok hg ht (fun s H C cl fp => he s H C cl fp ⟨takes0, PassesOwn.never, c.calm⟩) hs) (impLc hsl hio)
theorem s_setLc {i : Nat} {y : Str} {py : Pos} {elt tg iter : Expr} {ifs : List Expr} {scope : Scope} {own : List (Str × Nat)} {pos spos : Pos} {it : MA} {g : D → Env → Option Env} {sl : List Nat} {t : MT} {m : ME} (c : XOk X W) (hN : X.N.Nodup) (hy : X.N[i]? = some y) (hyl : X.env.scope.names.lookup y = some .local)
    (hsw : swapsWith (.ListComp elt [⟨tg, iter, ifs, 0⟩] scope pos) (some (.Name y py)) spos.line X.env = pure true) (hi : PI X tg iter (rdI X.K B W it)) (ok : BlkOk X.N X.env.scope scope own)
    (hg : ∀ (s : Shared) (H : Hp) (C : Addr) (cl : List (Str × Addr)) (fp : List Addr), PG (X.blk s H scope (compEnvC scope cl C X.env) fp) tg (rdG X.K B sl g)) (ht : ∀ (s : Shared) (H : Hp) (C : Addr) (cl : List (Str × Addr)) (fp : List Addr), PTs (X.blk s H scope (compEnvC scope cl C X.env) fp) ifs (rdT X.K B W0 t))
    (he : ∀ (s : Shared) (H : Hp) (C : Addr) (cl : List (Str × Addr)) (fp : List Addr), XOk (X.blk s H scope (compEnvC scope cl C X.env) fp) W0 → PE (X.blk s H scope (compEnvC scope cl C X.env) fp) elt (rdE X.K B W0 m))
    (hsl : ∀ j ∈ sl, j ∈ own.map (·.2) := by decide) (hio : ioFreeL B (own.map (·.2)) := by first | (intro p hp; cases hp; done) | (intro p hp; simp only [List.mem_cons, List.not_mem_nil, or_false] at hp; rcases hp with rfl | rfl <;> simp) | (intro p hp; simp only [List.mem_cons, List.not_mem_nil, or_false] at hp; rcases hp with rfl | rfl | rfl <;> simp) | (intro p hp; simp only [List.mem_cons, List.not_mem_nil, or_false] at hp; subst hp; simp)) (hio2 : ioFree B i := by first | (intro p hp; cases hp; done) | (intro p hp; simp only [List.mem_cons, List.not_mem_nil, or_false] at hp; rcases hp with rfl | rfl <;> simp) | (intro p hp; simp only [List.mem_cons, List.not_mem_nil, or_false] at hp; rcases hp with rfl | rfl | rfl <;> simp) | (intro p hp; simp only [List.mem_cons, List.not_mem_nil, or_false] at hp; subst hp; simp)) (hs : ∀ x, foldedSetIterable iter X.env x = pure x := by intro _; rfl) :
    PS X (.Assign [.Name y py] (.ListComp elt [⟨tg, iter, ifs, 0⟩] scope pos) spos) (rdS X.K B W (sAsg (eLc (own.map (·.2)) it g t m) (gN i))) :=
  PS.imp (ps_setLc c.calm hN hy hyl hsw hi ok hg ht (fun s H C cl fp => he s H C cl fp ⟨takes0, PassesOwn.never, c.calm⟩) hs) fun D σ H ⟨F, τ, vs, ds, s, p⟩ =>
    impLc hsl hio σ H _ ⟨F, τ, vs, ds, s, post_imp (post_s (σ := σ) p) (fun d τ1 q v F1 H1 s1 => q _ F1 H1 (s1.put' hio2)) fun _ _ q => q⟩
end

/-! ### a def -/
def callF (n N : Nat) (b : MS) : List D → CR := fun ds => if ds.length = n then (match b (ds.map some ++ List.replicate (N - n) none) with
  | .nx _ => .ok .non
  | .rt d _ => .ok d
  | .ex c _ => .ex c
  | _ => .bad) else .bad
theorem sl_start {K : PySem.W.Frag} {ca : Str → Addr} {F H : Hp} {k : Nat} : ∀ {ds : List D} {vs : List V}, RepL K ca F ds vs → Sl K ca F H (ds.map some ++ List.replicate k none) (vs.map some ++ List.replicate k none) (fun _ => 0)
  | [], vs, h => by
    cases (show vs = [] from h)
    show Sl K ca F H (List.replicate k none) (List.replicate k none) _
    induction k with
    | zero => exact ⟨rfl, fun _ => rfl⟩
    | succ k ih => exact ⟨none, _, rfl, ih⟩
  | d :: ds, _, ⟨v, r, h1, h2, h3⟩ => by
    subst h1
    exact ⟨v, _, _, _, rfl, h2.o, sl_start h3, fun _ => rfl⟩
section
variable {P : Program} {w : World} {K : PySem.W.Frag} {mg : Str → Option Value} {base : Heap} {ca : Str → Addr}
theorem fn_ok {x qual : Str} {st : Stmt} {f : Addr} {fd : FuncData} {N ps : List Str} {k : Nat} {b : MS} (F : Fun K x qual st f fd) (S : FnScope N ps (defScope st))
    (hb : ∀ (cdv : Value) (A : Around) (outer : List PySem.Env) (s : Shared) (H : Hp) (E : XK) (F0 R : Hp), Room k (A.deeper (envOfC qual (defScope st) s.heap.objs.size f cdv)) →
      XOk (cxOf (L2.CX P w) P w K mg base N qual (defScope st) f cdv A outer s H E) (fun cls d _ H => E cls d H) →
      PSs (cxOf (L2.CX P w) P w K mg base N qual (defScope st) f cdv A outer s H E) (defBody st) (rdS K ⟨ca, F0, R, []⟩ (fun cls d _ H => E cls d H) b)) :
    FnOk P w K mg base (L2.CX P w) (k + 1) f fd ps (spP K ca (callF ps.length N.length b)) := by
  refine F.okX S (fun vs H Q E h => ?_) (fun cdv A outer s H vs Q E hr h => ?_)
  · obtain ⟨F0, ds, _, rl, h⟩ := h
    rw [rl.length]
    by_cases e : ds.length = ps.length
    · exact e
    · unfold callF at h
      rw [if_neg e] at h
      exact h.elim
  · obtain ⟨F0, ds, sm, rl, h⟩ := h
    refine ⟨_, hb cdv A outer s H E F0 H hr ⟨takes_of rfl rfl rfl rfl, passes_of rfl, rfl⟩, ?_⟩
    have hl : ds.length = ps.length := by
      by_cases e : ds.length = ps.length
      · exact e
      · unfold callF at h
        rw [if_neg e] at h
        exact h.elim
    unfold callF at h
    rw [if_pos hl] at h
    have st0 : StT K ⟨ca, F0, H, []⟩ F0 H (L2.start N vs) (ds.map some ++ List.replicate (N.length - ps.length) none) [] [] := by
      refine ⟨fun _ => 0, fun _ => 0, ?_, ⟨rfl, fun _ => rfl⟩, ⟨fun _ => Nat.zero_le _, fun a q => absurd q (Nat.lt_irrefl _), fun a q => absurd q (Nat.lt_irrefl _), sm, Same.refl _, Same.refl _, fun a q => .inl q⟩, fun p hp => by cases hp⟩
      unfold L2.start
      rw [rl.length, hl]
      exact sl_start rl
    refine ⟨F0, _, [], [], st0, ?_⟩
    cases e : b (ds.map some ++ List.replicate (N.length - ps.length) none) with
    | nx τ =>
      rw [e] at h
      intro σ' F' H' s'
      obtain ⟨f1, f2, _, _, w', _⟩ := s'
      exact h .non F' H' (fun _ => 0) w'.s0 w'.sF w'.sR (Rep.o (d := .non) rfl) (fun _ => Nat.zero_le _) (fun a q => absurd q (Nat.lt_irrefl _)) w'.fr
    | rt d τ =>
      rw [e] at h
      intro v σ' F' H' s'
      obtain ⟨f1, f2, _, ⟨_, _, g1, g2, ee, hv, _, q⟩, w', _⟩ := s'
      cases ee
      have le : ∀ a, g1 a ≤ f1 a + f2 a := fun a => by rw [q]; omega
      exact h v F' H' g1 w'.s0 w'.sF w'.sR hv (fun a => Nat.le_trans (le a) (w'.nd a)) (fun a z => ⟨w'.dF a (Nat.lt_of_lt_of_le z (le a)), w'.dR a (Nat.lt_of_lt_of_le z (le a))⟩) w'.fr
    | ex c τ =>
      rw [e] at h
      intro σ' F' H' s'
      obtain ⟨f1, f2, _, _, w', _⟩ := s'
      exact h H' w'.sR
    | bk τ => rw [e] at h; exact h.elim
    | ct τ => rw [e] at h; exact h.elim
    | bad => rw [e] at h; exact h.elim
theorem fo_of {x qual : Str} {st : Stmt} {f : Addr} {fd : FuncData} {ps : List Str} {k : Nat} {g : List D → CR} (F : Fun K x qual st f fd) (hm : mg x = some (.ref f)) (hb : Binds K fd ps []) (h : FnOk P w K mg base (L2.CX P w) k f fd ps (spP K ca g)) : Fo P w K mg base ca k x g := ⟨f, fd, ps, hm, F.kp, hb, h⟩
end
end Bn

/-! Operators and built-in calls by trees. -/
namespace Bn
open PySem PySem.Spec PyProof.Rows L2
section
variable {K : PySem.W.Frag}
def gI (k : Int → Int → D) : D → D → Option D
  | .int i, .int j => some (k i j)
  | _, _ => none
def gIC (C : Int → Int → Prop) [∀ i j, Decidable (C i j)] (k : Int → Int → D) : D → D → Option D
  | .int i, .int j => if C i j then some (k i j) else none
  | _, _ => none
theorem opS_I0 {f : Int → Int → V} {k : Int → Int → D} (h : ∀ ca F i j, Rep K ca F (k i j) (f i j)) : OpS K (rI0 f) (gI k) := by
  intro ca F H x y a b d f1 f2 Q sm hx hy e q
  cases a with
  | int i =>
    cases b with
    | int j =>
      cases (show some (k i j) = some d from e)
      exact ⟨i, j, hx.1, hy.1, q _ _ (h ca F i j).o⟩
    | _ => cases e
  | _ => cases e
theorem opS_IC {C : Int → Int → Prop} [∀ i j, Decidable (C i j)] {f : Int → Int → V} {k : Int → Int → D} (h : ∀ ca F i j, Rep K ca F (k i j) (f i j)) : OpS K (rI C f) (gIC C k) := by
  intro ca F H x y a b d f1 f2 Q sm hx hy e q
  cases a with
  | int i =>
    cases b with
    | int j =>
      by_cases c : C i j
      · have e' : (if C i j then some (k i j) else none) = some d := e
        rw [if_pos c] at e'
        cases e'
        exact ⟨i, j, hx.1, hy.1, c, q _ _ (h ca F i j).o⟩
      · have e' : (if C i j then some (k i j) else none) = some d := e
        rw [if_neg c] at e'; cases e'
    | _ => cases e
  | _ => cases e
def gAdd : D → D → Option D := gI fun i j => .int (i + j)
def gSub : D → D → Option D := gI fun i j => .int (i - j)
instance {i j : Int} : Decidable (CMulW i j) := by unfold CMulW; infer_instance
instance {i j : Int} : Decidable (CDivW i j) := by unfold CDivW; infer_instance
instance {i j : Int} : Decidable (CPow i j) := by unfold CPow; infer_instance
def gMul : D → D → Option D := gIC CMulW fun i j => .int (i * j)
def gDiv : D → D → Option D := gIC CDivW fun i j => .int (i / j)
def gMod : D → D → Option D := gIC (fun _ j => 0 < j) fun i j => .int (i % j)
def gPow : D → D → Option D := gIC CPow fun i j => .int (i ^ j.toNat)
def gLt : D → D → Option D := gI fun i j => .bl (decide (i < j))
def gLe : D → D → Option D := gI fun i j => .bl (decide (i ≤ j))
def gGt : D → D → Option D := gI fun i j => .bl (decide (j < i))
def gGe : D → D → Option D := gI fun i j => .bl (decide (j ≤ i))
theorem sAdd : OpS K (rI0 fun i j => .int (i + j)) gAdd := opS_I0 fun _ _ _ _ => rfl
theorem sSub : OpS K (rI0 fun i j => .int (i - j)) gSub := opS_I0 fun _ _ _ _ => rfl
theorem sMul : OpS K (rI CMulW fun i j => .int (i * j)) gMul := opS_IC fun _ _ _ _ => rfl
theorem sDiv : OpS K (rI CDivW fun i j => .int (i / j)) gDiv := opS_IC fun _ _ _ _ => rfl
theorem sMod : OpS K (rI (fun _ j => 0 < j) fun i j => .int (i % j)) gMod := opS_IC fun _ _ _ _ => rfl
theorem sPow : OpS K (rI CPow fun i j => .int (i ^ j.toNat)) gPow := opS_IC fun _ _ _ _ => rfl
theorem sLt : OpS K (rI0 fun i j => .bl (decide (i < j))) gLt := opS_I0 fun _ _ _ _ => rfl
theorem sLe : OpS K (rI0 fun i j => .bl (decide (i ≤ j))) gLe := opS_I0 fun _ _ _ _ => rfl
theorem sGt : OpS K (rI0 fun i j => .bl (decide (j < i))) gGt := opS_I0 fun _ _ _ _ => rfl
theorem sGe : OpS K (rI0 fun i j => .bl (decide (j ≤ i))) gGe := opS_I0 fun _ _ _ _ => rfl
def gNeg : D → Option D
  | .int i => some (.int (-i))
  | _ => none
theorem sNeg : UnS K (rU fun i => .int (-i)) gNeg := by
  intro ca F H x a d f1 Q sm hx e q
  cases a with
  | int i =>
    cases (show some (D.int (-i)) = some d from e)
    exact ⟨i, hx.1, q (.int (-i)) _ (Rep.o (d := .int (-i)) rfl)⟩
  | _ => cases e
def gAddS : D → D → Option D
  | .str i, .str j => if i.length + j.length ≤ 1000000 then some (.str (i ++ j)) else none
  | _, _ => none
theorem sAddS : OpS K (fun x y H Q => ∃ i j, x = .str i ∧ y = .str j ∧ i.length + j.length ≤ sizeLine ∧ Q (.str (i ++ j)) H) gAddS := by
  intro ca F H x y a b d f1 f2 Q sm hx hy e q
  cases a with
  | str i =>
    cases b with
    | str j =>
      by_cases c : i.length + j.length ≤ 1000000
      · have e' : (if i.length + j.length ≤ 1000000 then some (D.str (i ++ j)) else none) = some d := e
        rw [if_pos c] at e'
        cases e'
        exact ⟨i, j, hx.1, hy.1, le_sizeLine c, q (.str (i ++ j)) _ (Rep.o (d := .str (i ++ j)) rfl)⟩
      · have e' : (if i.length + j.length ≤ 1000000 then some (D.str (i ++ j)) else none) = some d := e
        rw [if_neg c] at e'; cases e'
    | _ => cases e
  | _ => cases e

/-! ### == of data -/
mutual
def toP : D → PyData
  | .bl b => .bool b
  | .int i => .int i
  | .str s => .str s
  | .tup xs => .tuple (toPs xs)
  | .lst _ xs => .list (toPs xs)
  | .cst xs => .list (toPs xs)
  | .non => .none
  | .ty _ => .none
  | .val _ => .none
  | .tpo xs => .tuple (toPs xs)
  | .dct _ _ _ => .none
  | .obj _ _ _ _ => .none
def toPs : List D → List PyData
  | [] => []
  | x :: xs => toP x :: toPs xs
end
mutual
def hasP : D → Bool
  | .tup xs => hasPs xs
  | .lst _ xs => hasPs xs
  | .cst xs => hasPs xs
  | .ty _ => false
  | .val _ => false
  | .tpo xs => hasPs xs
  | .dct _ _ _ => false
  | .obj _ _ _ _ => false
  | .bl _ => true | .int _ => true | .str _ => true | .non => true
def hasPs : List D → Bool
  | [] => true
  | x :: xs => hasP x && hasPs xs
end
section
variable {ca : Str → Addr} {F H : Hp}
mutual
theorem Rep.dp (sm : Same F H) : ∀ (d : D) (v : V), hasP d = true → Rep K ca F d v → Dp K H v (toP d)
  | .non, v, _, h => by cases (show v = .non from h); exact .non
  | .bl b, v, _, h => by cases (show v = .bl b from h); exact .bl b
  | .int b, v, _, h => by cases (show v = .int b from h); exact .int b
  | .str b, v, _, h => by cases (show v = .str b from h); exact .str b
  | .tup ds, v, z, h => by
    obtain ⟨a, vs, rfl, h1, h2⟩ := h
    exact .tup (sqT_same sm h1) (RepL.dp sm ds vs z h2)
  | .lst true _, _, _, h => h.elim
  | .lst false ds, v, z, h => by
    obtain ⟨a, vs, rfl, h1, h2⟩ := h
    exact .lst (sqOf (sm _ _ h1)) (RepL.dp sm ds vs z h2)
  | .cst ds, v, z, h => by
    obtain ⟨a, vs, rfl, h1, h2⟩ := h
    exact .lst (sm.seq h1) (RepL.dp sm ds vs z h2)
  | .tpo _, _, _, h => h.elim
theorem RepL.dp (sm : Same F H) : ∀ (ds : List D) (vs : List V), hasPs ds = true → RepL K ca F ds vs → DpAll K H vs (toPs ds)
  | [], vs, _, h => by cases (show vs = [] from h); exact .nil
  | d :: ds, _, z, ⟨v, r, h1, h2, h3⟩ => by
    subst h1
    have z' : (hasP d && hasPs ds) = true := z
    rw [Bool.and_eq_true] at z'
    exact .cons (Rep.dp sm d v z'.1 h2) (RepL.dp sm ds r z'.2 h3)
end
mutual
theorem RepO.dp (sm : Same F H) : ∀ (d : D) (v : V) (f : Ct), hasP d = true → RepO K ca F H d v f → Dp K H v (toP d)
  | .lst true ds, v, f, z, h => by
    obtain ⟨a, vs, g, rfl, h1, h2, _⟩ := h
    exact .lst (sqOf h1) (RepOs.dp sm ds vs g z h2)
  | .lst false ds, v, f, z, h => Rep.dp sm _ _ z h.1
  | .non, v, f, z, h => Rep.dp sm _ _ z h.1
  | .bl _, v, f, z, h => Rep.dp sm _ _ z h.1
  | .int _, v, f, z, h => Rep.dp sm _ _ z h.1
  | .str _, v, f, z, h => Rep.dp sm _ _ z h.1
  | .tup _, v, f, z, h => Rep.dp sm _ _ z h.1
  | .cst _, v, f, z, h => Rep.dp sm _ _ z h.1
  | .tpo ds, v, f, z, h => by
    obtain ⟨a, vs, rfl, h1, h2⟩ := h
    exact .tup (sqT_same sm h1) (RepOs.dp sm ds vs f z h2)
theorem RepOs.dp (sm : Same F H) : ∀ (ds : List D) (vs : List V) (f : Ct), hasPs ds = true → RepOs K ca F H ds vs f → DpAll K H vs (toPs ds)
  | [], vs, _, _, h => by cases (show vs = [] from h.1); exact .nil
  | d :: ds, _, f, z, ⟨v, r, f1, f2, h1, h2, h3, _⟩ => by
    subst h1
    have z' : (hasP d && hasPs ds) = true := z
    rw [Bool.and_eq_true] at z'
    exact .cons (RepO.dp sm d v f1 z'.1 h2) (RepOs.dp sm ds r f2 z'.2 h3)
end
end
def okP (d : D) : Bool := hasP d && SeqAt.shaped (toP d)
def eqP (a b : D) : Bool := PyData.eqv (toP a) (toP b)
def gEq (a b : D) : Option D := if okP a = true ∧ okP b = true then some (.bl (eqP a b)) else none
def gNe (a b : D) : Option D := if okP a = true ∧ okP b = true then some (.bl (!eqP a b)) else none
theorem sEq : OpS K (rEqD K) gEq := by
  intro ca F H x y a b d f1 f2 Q sm hx hy e q
  unfold gEq at e
  by_cases c : okP a = true ∧ okP b = true
  · rw [if_pos c] at e
    cases e
    have c1 := c.1
    have c2 := c.2
    unfold okP at c1 c2
    rw [Bool.and_eq_true] at c1 c2
    exact ⟨_, _, RepO.dp sm a x f1 c1.1 hx, RepO.dp sm b y f2 c2.1 hy, c1.2, c2.2, q (.bl _) _ (Rep.o (d := .bl _) rfl)⟩
  · rw [if_neg c] at e; cases e
theorem sNe : OpS K (rNeD K) gNe := by
  intro ca F H x y a b d f1 f2 Q sm hx hy e q
  unfold gNe at e
  by_cases c : okP a = true ∧ okP b = true
  · rw [if_pos c] at e
    cases e
    have c1 := c.1
    have c2 := c.2
    unfold okP at c1 c2
    rw [Bool.and_eq_true] at c1 c2
    exact ⟨_, _, RepO.dp sm a x f1 c1.1 hx, RepO.dp sm b y f2 c2.1 hy, c1.2, c2.2, q (.bl _) _ (Rep.o (d := .bl _) rfl)⟩
  · rw [if_neg c] at e; cases e
def isNonD : D → Bool
  | .non => true
  | .val v => decide (v = .non)
  | _ => false
def gIsN (a b : D) : Option D := match b with
  | .non => some (.bl (isNonD a))
  | _ => none
def gNotN (a b : D) : Option D := match b with
  | .non => some (.bl (!isNonD a))
  | _ => none
theorem isN_of {ca : Str → Addr} {F H : Hp} {a : D} {x : V} {f : Ct} (h : RepO K ca F H a x f) : decide (x = .non) = isNonD a := by
  cases a with
  | non => cases (show x = .non from h.1); rfl
  | bl b => cases (show x = .bl b from h.1); rfl
  | int b => cases (show x = .int b from h.1); rfl
  | str b => cases (show x = .str b from h.1); rfl
  | ty b => cases (show x = .ty b from h.1); rfl
  | val b => cases (show x = b from h.1); rfl
  | tpo ds => obtain ⟨a, vs, rfl, _⟩ := h; rfl
  | dct m ks ds => cases m with
    | true => obtain ⟨a, vs, g, rfl, _⟩ := h; rfl
    | false => obtain ⟨⟨a, vs, rfl, _⟩, _⟩ := h; rfl
  | tup ds => obtain ⟨⟨a, vs, rfl, _⟩, _⟩ := h; rfl
  | cst ds => obtain ⟨⟨a, vs, rfl, _⟩, _⟩ := h; rfl
  | lst m ds => cases m with
    | true => obtain ⟨a, vs, g, rfl, _⟩ := h; rfl
    | false => obtain ⟨⟨a, vs, rfl, _⟩, _⟩ := h; rfl
  | obj m c ns ds => cases m with
    | true => obtain ⟨a, dx, fs, vs, g, rfl, _⟩ := h; rfl
    | false => obtain ⟨⟨a, dx, fs, vs, rfl, _⟩, _⟩ := h; rfl
theorem sIsN : OpS K (fun x y H Q => y = .non ∧ Q (.bl (decide (x = .non))) H) gIsN := by
  intro ca F H x y a b d f1 f2 Q sm hx hy e q
  cases b with
  | non =>
    cases (show some (D.bl (isNonD a)) = some d from e)
    refine ⟨hy.1, ?_⟩
    rw [isN_of hx]
    exact q (.bl _) _ (Rep.o (d := .bl _) rfl)
  | _ => cases e
theorem sNotN : OpS K (fun x y H Q => y = .non ∧ Q (.bl (!decide (x = .non))) H) gNotN := by
  intro ca F H x y a b d f1 f2 Q sm hx hy e q
  cases b with
  | non =>
    cases (show some (D.bl (!isNonD a)) = some d from e)
    refine ⟨hy.1, ?_⟩
    rw [isN_of hx]
    exact q (.bl _) _ (Rep.o (d := .bl _) rfl)
  | _ => cases e

/-! ### subscripts, len -/
def itemsD : D → Option (List D)
  | .lst _ xs => some xs
  | .cst xs => some xs
  | .tup xs => some xs
  | .tpo xs => some xs
  | _ => none
def gIx (a b : D) : Option D := match b with
  | .int i => (match a with
    | .str z => if z.length ≤ 1000000 then (atI z.cps.toList i).map fun c => .str ⟨#[c]⟩ else none
    | .lst _ xs => atI xs i
    | .cst xs => atI xs i
    | .tup xs => atI xs i
    | .tpo xs => atI xs i
    | _ => none)
  | _ => none
theorem atI_get {α β : Type} {xs : List α} {ys : List β} {i : Int} {y : β} (hl : xs.length = ys.length) (h : atI ys i = some y) : ∃ (j : Nat) (x : α), ys[j]? = some y ∧ xs[j]? = some x ∧ atI xs i = some x := by
  unfold atI at h ⊢
  obtain ⟨j, e, h⟩ := bind_some h
  have hj : j < ys.length := (List.getElem?_eq_some_iff.mp h).1
  obtain ⟨x, hx⟩ : ∃ x, xs[j]? = some x := ⟨xs[j]'(by omega), by simp [hl, hj]⟩
  refine ⟨j, x, h, hx, ?_⟩
  rw [hl, e]
  exact hx
theorem seq_of {ca : Str → Addr} {F H : Hp} {a : D} {x : V} {f : Ct} {xs : List D} (sm : Same F H) (h : RepO K ca F H a x f) (e : itemsD a = some xs) : ∃ p vs g, x = .ref p ∧ (SqL K H p vs ∨ SqT K H p vs) ∧ RepOs K ca F H xs vs g := by
  cases a with
  | tup ds =>
    cases (show some ds = some xs from e)
    obtain ⟨⟨a, vs, rfl, h1, h2⟩, _⟩ := h
    exact ⟨a, vs, _, rfl, .inr (sqT_same sm h1), h2.os⟩
  | tpo ds =>
    cases (show some ds = some xs from e)
    obtain ⟨a, vs, rfl, h1, h2⟩ := h
    exact ⟨a, vs, _, rfl, .inr (sqT_same sm h1), h2⟩
  | cst ds =>
    cases (show some ds = some xs from e)
    obtain ⟨⟨a, vs, rfl, h1, h2⟩, _⟩ := h
    exact ⟨a, vs, _, rfl, .inl (sm.seq h1), h2.os⟩
  | lst m ds =>
    cases (show some ds = some xs from e)
    cases m with
    | true =>
      obtain ⟨a, vs, g, rfl, h1, h2, _⟩ := h
      exact ⟨a, vs, g, rfl, .inl (sqOf h1), h2⟩
    | false =>
      obtain ⟨⟨a, vs, rfl, h1, h2⟩, _⟩ := h
      exact ⟨a, vs, _, rfl, .inl (sqOf (sm _ _ h1)), h2.os⟩
  | _ => cases e
theorem gIx_seq {a d : D} {i : Int} (e : gIx a (.int i) = some d) : (∃ xs, itemsD a = some xs ∧ atI xs i = some d) ∨ ∃ z c, a = .str z ∧ z.length ≤ 1000000 ∧ atI z.cps.toList i = some c ∧ d = .str ⟨#[c]⟩ := by
  cases a with
  | tup xs => exact .inl ⟨xs, rfl, e⟩
  | cst xs => exact .inl ⟨xs, rfl, e⟩
  | lst m xs => exact .inl ⟨xs, rfl, e⟩
  | tpo xs => exact .inl ⟨xs, rfl, e⟩
  | str z =>
    have e' : (if z.length ≤ 1000000 then (atI z.cps.toList i).map fun c => D.str ⟨#[c]⟩ else none) = some d := e
    by_cases c : z.length ≤ 1000000
    · rw [if_pos c] at e'
      cases e2 : atI z.cps.toList i with
      | none => rw [e2] at e'; cases e'
      | some c' =>
        rw [e2] at e'
        exact .inr ⟨z, c', rfl, c, e2, (Option.some.inj e').symm⟩
    · rw [if_neg c] at e'; cases e'
  | _ => cases e
theorem sIx : OpS K (rIx K) gIx := by
  intro ca F H x y a b d f1 f2 Q sm hx hy e q
  cases b with
  | int i =>
    rcases gIx_seq e with ⟨xs, e1, e2⟩ | ⟨z, c, rfl, hz, e2, rfl⟩
    · obtain ⟨p, vs, g, rfl, h1, h2⟩ := seq_of sm hx e1
      obtain ⟨j, v, g1, g2, g3⟩ := atI_get h2.length e2
      obtain ⟨v', g', k1, k2⟩ := h2.get g1
      rw [g2] at k1; cases k1
      rcases h1 with h1 | h1
      · exact .inl ⟨p, vs, i, v, rfl, hy.1, h1, g3, q v _ k2⟩
      · exact .inr (.inl ⟨p, vs, i, v, rfl, hy.1, h1, g3, q v _ k2⟩)
    · exact .inr (.inr ⟨z, i, c, hx.1, hy.1, le_sizeLine hz, e2, q (.str ⟨#[c]⟩) _ (Rep.o (d := .str _) rfl)⟩)
  | _ => cases e
def gLen : List D → Option D
  | [.str z] => if z.length ≤ 1000000 then some (.int (z.length : Nat)) else none
  | [a] => (itemsD a).map fun xs => .int (xs.length : Nat)
  | _ => none
theorem repOs1 {ca : Str → Addr} {F H : Hp} {a : D} {xs : List V} {f : Ct} (h : RepOs K ca F H [a] xs f) : ∃ x g, xs = [x] ∧ RepO K ca F H a x g := by
  obtain ⟨x, r, f1, f2, rfl, h1, ⟨rfl, _⟩, _⟩ := h
  exact ⟨x, f1, rfl, h1⟩
theorem repOs2 {ca : Str → Addr} {F H : Hp} {a b : D} {xs : List V} {f : Ct} (h : RepOs K ca F H [a, b] xs f) : ∃ x y g g', xs = [x, y] ∧ RepO K ca F H a x g ∧ RepO K ca F H b y g' := by
  obtain ⟨x, r, f1, f2, rfl, h1, h2, _⟩ := h
  obtain ⟨y, g', rfl, h3⟩ := repOs1 h2
  exact ⟨x, y, f1, g', rfl, h1, h3⟩
theorem sLen : CallS K (fun xs H Q => ∃ x n, xs = [x] ∧ LenV K x H n ∧ Q (.int n) H) gLen := by
  intro ca F H xs as d f1 Q sm hx e q
  unfold gLen at e
  split at e
  · rename_i z
    obtain ⟨x, g, rfl, h⟩ := repOs1 hx
    cases (show x = .str z from h.1)
    by_cases c : z.length ≤ 1000000
    · rw [if_pos c] at e; cases e
      exact ⟨_, z.length, rfl, ⟨le_sizeLine c, rfl⟩, q (.int _) _ (Rep.o (d := .int _) rfl)⟩
    · rw [if_neg c] at e; cases e
  · rename_i a _
    obtain ⟨x, g, rfl, h⟩ := repOs1 hx
    cases ei : itemsD a with
    | none => rw [ei] at e; cases e
    | some ys =>
      rw [ei] at e
      cases (show some (D.int (ys.length : Nat)) = some d from e)
      obtain ⟨p, vs, g, rfl, h1, h2⟩ := seq_of sm h ei
      refine ⟨_, ys.length, rfl, ?_, q (.int _) _ (Rep.o (d := .int _) rfl)⟩
      rcases h1 with h1 | h1
      · exact .inl ⟨vs, h1, h2.length.symm⟩
      · exact .inr ⟨vs, h1, h2.length.symm⟩
  · cases e

/-! ### abs, min, max -/
def gAbs : List D → Option D
  | [.int i] => some (.int (if i < 0 then -i else i))
  | _ => none
def gMin2 : List D → Option D
  | [.int i, .int j] => some (.int (if j < i then j else i))
  | _ => none
def gMax2 : List D → Option D
  | [.int i, .int j] => some (.int (if j > i then j else i))
  | _ => none
theorem sAbs : CallS K (fun xs H Q => ∃ i, xs = [.int i] ∧ Q (.int (if i < 0 then -i else i)) H) gAbs := by
  intro ca F H xs as d f1 Q sm hx e q
  unfold gAbs at e
  split at e
  · rename_i i
    cases e
    obtain ⟨x, g, rfl, h⟩ := repOs1 hx
    cases (show x = .int i from h.1)
    exact ⟨i, rfl, q (.int _) _ (Rep.o (d := .int _) rfl)⟩
  · cases e

theorem sMin2 : CallS K (fun xs H Q => ∃ i j, xs = [.int i, .int j] ∧ Q (.int (if j < i then j else i)) H) gMin2 := by
  intro ca F H xs as d f1 Q sm hx e q
  unfold gMin2 at e
  split at e
  · rename_i i j
    cases e
    obtain ⟨x, y, g, g', rfl, h, h'⟩ := repOs2 hx
    cases (show x = .int i from h.1)
    cases (show y = .int j from h'.1)
    exact ⟨i, j, rfl, q (.int _) _ (Rep.o (d := .int _) rfl)⟩
  · cases e

theorem sMax2 : CallS K (fun xs H Q => ∃ i j, xs = [.int i, .int j] ∧ Q (.int (if j > i then j else i)) H) gMax2 := by
  intro ca F H xs as d f1 Q sm hx e q
  unfold gMax2 at e
  split at e
  · rename_i i j
    cases e
    obtain ⟨x, y, g, g', rfl, h, h'⟩ := repOs2 hx
    cases (show x = .int i from h.1)
    cases (show y = .int j from h'.1)
    exact ⟨i, j, rfl, q (.int _) _ (Rep.o (d := .int _) rfl)⟩
  · cases e

/-- the ints of a list of ints -/
def intsOf : List D → Option (List Int)
  | [] => some []
  | .int i :: r => (intsOf r).map (i :: ·)
  | _ => none
theorem ints_map : ∀ ns : List Int, intsOf (ns.map D.int) = some ns
  | [] => rfl
  | i :: r => by show (intsOf (r.map D.int)).map (i :: ·) = _; rw [ints_map r]; rfl
theorem repOs_ints {ca : Str → Addr} {F H : Hp} : ∀ {ds : List D} {vs : List V} {f : Ct} {ns : List Int}, RepOs K ca F H ds vs f → intsOf ds = some ns → vs = ns.map V.int
  | [], vs, f, ns, h, e => by
    cases (show some [] = some ns from e)
    exact h.1
  | d :: r, vs, f, ns, h, e => by
    obtain ⟨v, r', f1, f2, h1, h2, h3, _⟩ := h
    cases d with
    | int i =>
      have e' : (intsOf r).map (i :: ·) = some ns := e
      cases e2 : intsOf r with
      | none => rw [e2] at e'; cases e'
      | some ms =>
        rw [e2] at e'
        cases (show some (i :: ms) = some ns from e')
        rw [h1, repOs_ints h3 e2, (show v = .int i from h2.1)]
        rfl
    | _ => cases e
def minI : Int → List Int → Int
  | m, [] => m
  | m, x :: xs => minI (if x < m then x else m) xs
def maxI : Int → List Int → Int
  | m, [] => m
  | m, x :: xs => maxI (if m < x then x else m) xs
theorem minI_le : ∀ (m : Int) (xs : List Int), minI m xs ≤ m ∧ (∀ x ∈ xs, minI m xs ≤ x) ∧ (minI m xs = m ∨ minI m xs ∈ xs)
  | m, [] => ⟨Int.le_refl _, by simp, .inl rfl⟩
  | m, x :: xs => by
    obtain ⟨h1, h2, h3⟩ := minI_le (if x < m then x else m) xs
    show minI (if x < m then x else m) xs ≤ m ∧ (∀ y ∈ x :: xs, minI (if x < m then x else m) xs ≤ y) ∧ (minI (if x < m then x else m) xs = m ∨ minI (if x < m then x else m) xs ∈ x :: xs)
    have a0 : (if x < m then x else m) ≤ m ∧ (if x < m then x else m) ≤ x := by split <;> omega
    have a : minI (if x < m then x else m) xs ≤ m ∧ minI (if x < m then x else m) xs ≤ x := ⟨Int.le_trans h1 a0.1, Int.le_trans h1 a0.2⟩
    refine ⟨a.1, fun y hy => ?_, ?_⟩
    · rcases List.mem_cons.mp hy with rfl | hy
      · exact a.2
      · exact h2 y hy
    · rcases h3 with h3 | h3
      · rw [h3]
        split
        · exact .inr List.mem_cons_self
        · exact .inl rfl
      · exact .inr (List.mem_cons_of_mem _ h3)
theorem maxI_le : ∀ (m : Int) (xs : List Int), m ≤ maxI m xs ∧ (∀ x ∈ xs, x ≤ maxI m xs) ∧ (maxI m xs = m ∨ maxI m xs ∈ xs)
  | m, [] => ⟨Int.le_refl _, by simp, .inl rfl⟩
  | m, x :: xs => by
    obtain ⟨h1, h2, h3⟩ := maxI_le (if m < x then x else m) xs
    show m ≤ maxI (if m < x then x else m) xs ∧ (∀ y ∈ x :: xs, y ≤ maxI (if m < x then x else m) xs) ∧ (maxI (if m < x then x else m) xs = m ∨ maxI (if m < x then x else m) xs ∈ x :: xs)
    have a0 : m ≤ (if m < x then x else m) ∧ x ≤ (if m < x then x else m) := by split <;> omega
    have a : m ≤ maxI (if m < x then x else m) xs ∧ x ≤ maxI (if m < x then x else m) xs := ⟨Int.le_trans a0.1 h1, Int.le_trans a0.2 h1⟩
    refine ⟨a.1, fun y hy => ?_, ?_⟩
    · rcases List.mem_cons.mp hy with rfl | hy
      · exact a.2
      · exact h2 y hy
    · rcases h3 with h3 | h3
      · rw [h3]
        split
        · exact .inr List.mem_cons_self
        · exact .inl rfl
      · exact .inr (List.mem_cons_of_mem _ h3)
def lstD : D → Option (List D)
  | .lst _ xs => some xs
  | .cst xs => some xs
  | _ => none
theorem lst_of {ca : Str → Addr} {F H : Hp} {a : D} {x : V} {f : Ct} {xs : List D} (sm : Same F H) (h : RepO K ca F H a x f) (e : lstD a = some xs) : ∃ p vs g, x = .ref p ∧ SqL K H p vs ∧ RepOs K ca F H xs vs g := by
  cases a with
  | cst ds =>
    cases (show some ds = some xs from e)
    obtain ⟨⟨a, vs, rfl, h1, h2⟩, _⟩ := h
    exact ⟨a, vs, _, rfl, sm.seq h1, h2.os⟩
  | lst m ds =>
    cases (show some ds = some xs from e)
    cases m with
    | true =>
      obtain ⟨a, vs, g, rfl, h1, h2, _⟩ := h
      exact ⟨a, vs, g, rfl, sqOf h1, h2⟩
    | false =>
      obtain ⟨⟨a, vs, rfl, h1, h2⟩, _⟩ := h
      exact ⟨a, vs, _, rfl, sqOf (sm _ _ h1), h2.os⟩
  | _ => cases e
def gMinL : List D → Option D
  | [a] => match (lstD a).bind intsOf with
    | some (m :: r) => some (.int (minI m r))
    | _ => none
  | _ => none
def gMaxL : List D → Option D
  | [a] => match (lstD a).bind intsOf with
    | some (m :: r) => some (.int (maxI m r))
    | _ => none
  | _ => none
def gSum : List D → Option D
  | [a] => match (lstD a).bind intsOf with
    | some ns => some (.int ns.sum)
    | _ => none
  | _ => none
theorem sMinL : CallS K (rMin K) gMinL := by
  intro ca F H xs as d f1 Q sm hx e q
  unfold gMinL at e
  split at e
  · rename_i a
    split at e
    · rename_i m r e1
      cases e
      obtain ⟨x, g, rfl, h⟩ := repOs1 hx
      obtain ⟨ds, e2, e3⟩ := bind_some e1
      obtain ⟨p, vs, g, rfl, h1, h2⟩ := lst_of sm h e2
      refine ⟨p, m :: r, rfl, by rw [← repOs_ints h2 e3]; exact h1, by simp, fun n hn hle => ?_⟩
      have k := minI_le m r
      have : n = minI m r := by
          have a1 : minI m r ≤ n := by
            rcases List.mem_cons.mp hn with rfl | z
            · exact k.1
            · exact k.2.1 n z
          have a2 : n ≤ minI m r := by
            rcases k.2.2 with z | z
            · rw [z]; exact hle m List.mem_cons_self
            · exact hle _ (List.mem_cons_of_mem _ z)
          omega
      subst this
      exact q (.int _) _ (Rep.o (d := .int _) rfl)
    · cases e
  · cases e

theorem sMaxL : CallS K (rMax K) gMaxL := by
  intro ca F H xs as d f1 Q sm hx e q
  unfold gMaxL at e
  split at e
  · rename_i a
    split at e
    · rename_i m r e1
      cases e
      obtain ⟨x, g, rfl, h⟩ := repOs1 hx
      obtain ⟨ds, e2, e3⟩ := bind_some e1
      obtain ⟨p, vs, g, rfl, h1, h2⟩ := lst_of sm h e2
      refine ⟨p, m :: r, rfl, by rw [← repOs_ints h2 e3]; exact h1, by simp, fun n hn hle => ?_⟩
      have k := maxI_le m r
      have : n = maxI m r := by
          have a1 : n ≤ maxI m r := by
            rcases List.mem_cons.mp hn with rfl | z
            · exact k.1
            · exact k.2.1 n z
          have a2 : maxI m r ≤ n := by
            rcases k.2.2 with z | z
            · rw [z]; exact hle m List.mem_cons_self
            · exact hle _ (List.mem_cons_of_mem _ z)
          omega
      subst this
      exact q (.int _) _ (Rep.o (d := .int _) rfl)
    · cases e
  · cases e

theorem sSum : CallS K (rSum K) gSum := by
  intro ca F H xs as d f1 Q sm hx e q
  unfold gSum at e
  split at e
  · rename_i a
    split at e
    · rename_i ns e1
      cases e
      obtain ⟨x, g, rfl, h⟩ := repOs1 hx
      obtain ⟨ds, e2, e3⟩ := bind_some e1
      obtain ⟨p, vs, g, rfl, h1, h2⟩ := lst_of sm h e2
      exact ⟨p, ns, rfl, by rw [← repOs_ints h2 e3]; exact h1, q (.int _) _ (Rep.o (d := .int _) rfl)⟩
    · cases e
  · cases e

/-- the boolsOf of a list of boolsOf -/
def boolsOf : List D → Option (List Bool)
  | [] => some []
  | .bl i :: r => (boolsOf r).map (i :: ·)
  | _ => none
theorem bools_map : ∀ ns : List Bool, boolsOf (ns.map D.bl) = some ns
  | [] => rfl
  | i :: r => by show (boolsOf (r.map D.bl)).map (i :: ·) = _; rw [bools_map r]; rfl
theorem repOs_bools {ca : Str → Addr} {F H : Hp} : ∀ {ds : List D} {vs : List V} {f : Ct} {ns : List Bool}, RepOs K ca F H ds vs f → boolsOf ds = some ns → vs = ns.map V.bl
  | [], vs, f, ns, h, e => by
    cases (show some [] = some ns from e)
    exact h.1
  | d :: r, vs, f, ns, h, e => by
    obtain ⟨v, r', f1, f2, h1, h2, h3, _⟩ := h
    cases d with
    | bl i =>
      have e' : (boolsOf r).map (i :: ·) = some ns := e
      cases e2 : boolsOf r with
      | none => rw [e2] at e'; cases e'
      | some ms =>
        rw [e2] at e'
        cases (show some (i :: ms) = some ns from e')
        rw [h1, repOs_bools h3 e2, (show v = .bl i from h2.1)]
        rfl
    | _ => cases e
def gAll : List D → Option D
  | [a] => match (lstD a).bind boolsOf with
    | some ns => some (.bl (ns.all id))
    | _ => none
  | _ => none
def gAny : List D → Option D
  | [a] => match (lstD a).bind boolsOf with
    | some ns => some (.bl (ns.any id))
    | _ => none
  | _ => none
theorem sAll : CallS K (rAll K) gAll := by
  intro ca F H xs as d f1 Q sm hx e q
  unfold gAll at e
  split at e
  · rename_i a
    split at e
    · rename_i ns e1
      cases e
      obtain ⟨x, g, rfl, h⟩ := repOs1 hx
      obtain ⟨ds, e2, e3⟩ := bind_some e1
      obtain ⟨p, vs, g, rfl, h1, h2⟩ := lst_of sm h e2
      exact ⟨p, ns, rfl, by rw [← repOs_bools h2 e3]; exact h1, q (.bl _) _ (Rep.o (d := .bl _) rfl)⟩
    · cases e
  · cases e

theorem sAny : CallS K (rAny K) gAny := by
  intro ca F H xs as d f1 Q sm hx e q
  unfold gAny at e
  split at e
  · rename_i a
    split at e
    · rename_i ns e1
      cases e
      obtain ⟨x, g, rfl, h⟩ := repOs1 hx
      obtain ⟨ds, e2, e3⟩ := bind_some e1
      obtain ⟨p, vs, g, rfl, h1, h2⟩ := lst_of sm h e2
      exact ⟨p, ns, rfl, by rw [← repOs_bools h2 e3]; exact h1, q (.bl _) _ (Rep.o (d := .bl _) rfl)⟩
    · cases e
  · cases e

/-! ### isinstance -/
def tyOfD : D → Option String
  | .non => none | .bl _ => some "bool" | .int _ => some "int" | .str _ => some "str"
  | .tup _ => some "tuple" | .lst _ _ => some "list" | .cst _ => some "list" | .ty _ => none | .obj _ _ _ _ => none | .val _ => none | .tpo _ => some "tuple" | .dct _ _ _ => none
def isiT (t u : String) : Option Bool := if t = u then some true else if t = "bool" ∧ u = "int" then some true else if t ∈ ["bool", "int", "str", "tuple", "list"] ∧ u ∈ ["bool", "int", "str", "tuple", "list"] then some false else none
def gIsi : List D → Option D
  | [a, .ty u] => match tyOfD a with
    | some t => if t ∈ ["bool", "int", "str", "tuple", "list"] ∧ u ∈ ["bool", "int", "str", "tuple", "list"] then some (.bl (decide (t = u) || (decide (t = "bool") && decide (u = "int")))) else none
    | none => none
  | _ => none
theorem kitOne_isi {K : PySem.W.Frag} {t u : String} (h : t ∈ ["bool", "int", "str", "tuple", "list"]) (k : u ∈ ["bool", "int", "str", "tuple", "list"]) : PySem.W.kitOne K (.type t) (.type u) = some (decide (t = u) || (decide (t = "bool") && decide (u = "int"))) := by
  simp only [List.mem_cons, List.not_mem_nil, or_false] at h k
  rcases h with rfl | rfl | rfl | rfl | rfl <;> rcases k with rfl | rfl | rfl | rfl | rfl <;> exact kit_ty (by decide +kernel)
theorem ty_of {ca : Str → Addr} {F H : Hp} {a : D} {x : V} {f : Ct} {t : String} (sm : Same F H) (h : RepO K ca F H a x f) (e : tyOfD a = some t) : TyX K H x (.type t) := by
  have L : ∀ {p vs}, SqL K H p vs → TyX K H (.ref p) (.type "list") := fun {p vs} s => by
    rcases s with (s | ⟨o, s⟩) | ⟨o, its, n, k1, k2, _⟩
    · exact .base (.lst s)
    · exact .base (.frz s)
    · exact .kList k1 k2
  have T : ∀ {p vs}, SqT K H p vs → TyX K H (.ref p) (.type "tuple") := fun {p vs} s => by
    rcases s with (s | ⟨o, s⟩) | ⟨o, its, n, k1, k2, _⟩
    · exact .base (.tup s)
    · exact .fTuple s
    · exact .kTuple k1 k2
  cases a with
  | bl b => cases (show x = .bl b from h.1); cases (show some "bool" = some t from e); exact .base (.bl b)
  | int b => cases (show x = .int b from h.1); cases (show some "int" = some t from e); exact .base (.int b)
  | str b => cases (show x = .str b from h.1); cases (show some "str" = some t from e); exact .base (.str b)
  | tup ds =>
    cases (show some "tuple" = some t from e)
    obtain ⟨⟨a, vs, rfl, h1, h2⟩, _⟩ := h
    exact T (sqT_same sm h1)
  | cst ds =>
    cases (show some "list" = some t from e)
    obtain ⟨p, vs, g, rfl, h1, h2⟩ := lst_of sm h rfl
    exact L h1
  | lst m ds =>
    cases (show some "list" = some t from e)
    obtain ⟨p, vs, g, rfl, h1, h2⟩ := lst_of sm h rfl
    exact L h1
  | tpo ds =>
    cases (show some "tuple" = some t from e)
    obtain ⟨a, vs, rfl, h1, h2⟩ := h
    exact T (sqT_same sm h1)
  | _ => cases e
theorem sIsi : CallS K (rIsi K) gIsi := by
  intro ca F H xs as d f1 Q sm hx e q
  unfold gIsi at e
  split at e
  · rename_i a u
    obtain ⟨x, y, g, g', rfl, h, h'⟩ := repOs2 hx
    cases (show y = .ty u from h'.1)
    split at e
    · rename_i t et
      by_cases c : t ∈ ["bool", "int", "str", "tuple", "list"] ∧ u ∈ ["bool", "int", "str", "tuple", "list"]
      · rw [if_pos c] at e
        cases e
        exact ⟨x, .ty u, _, _, _, rfl, .ty u, ty_of sm h et, kitOne_isi c.1 c.2, q (.bl _) _ (Rep.o (d := .bl _) rfl)⟩
      · rw [if_neg c] at e; cases e
    · cases e
  · cases e

/-! ### in -/
def flatD : D → Bool
  | .non => true | .bl _ => true | .int _ => true | .str _ => true | _ => false
def toV : D → V
  | .non => .non | .bl b => .bl b | .int i => .int i | .str s => .str s | _ => .non
theorem flat_of {ca : Str → Addr} {F H : Hp} {a : D} {x : V} {f : Ct} (h : RepO K ca F H a x f) (e : flatD a = true) : x = toV a ∧ flatV x = true := by
  cases a with
  | non => cases (show x = .non from h.1); exact ⟨rfl, rfl⟩
  | bl b => cases (show x = .bl b from h.1); exact ⟨rfl, rfl⟩
  | int b => cases (show x = .int b from h.1); exact ⟨rfl, rfl⟩
  | str b => cases (show x = .str b from h.1); exact ⟨rfl, rfl⟩
  | _ => cases e
theorem flats_of {ca : Str → Addr} {F H : Hp} : ∀ {ds : List D} {vs : List V} {f : Ct}, RepOs K ca F H ds vs f → ds.all flatD = true → vs = ds.map toV ∧ vs.all flatV = true
  | [], vs, f, h, e => by cases (show vs = [] from h.1); exact ⟨rfl, rfl⟩
  | d :: ds, vs, f, ⟨v, r, f1, f2, h1, h2, h3, _⟩, e => by
    rw [List.all_cons, Bool.and_eq_true] at e
    obtain ⟨k1, k2⟩ := flat_of h2 e.1
    obtain ⟨k3, k4⟩ := flats_of h3 e.2
    subst h1
    refine ⟨by rw [List.map_cons, ← k1, ← k3], ?_⟩
    rw [List.all_cons, k2, k4]; rfl
def gIn (neg : Bool) (a b : D) : Option D := match itemsD b with
  | some xs => if flatD a = true ∧ xs.all flatD = true then some (.bl (if neg then !inV (toV a) (xs.map toV) else inV (toV a) (xs.map toV))) else none
  | none => none
theorem sIn {neg : Bool} : OpS K (rIn K neg) (gIn neg) := by
  intro ca F H x y a b d f1 f2 Q sm hx hy e q
  unfold gIn at e
  cases ei : itemsD b with
  | none => rw [ei] at e; cases e
  | some xs =>
    rw [ei] at e
    by_cases c : flatD a = true ∧ xs.all flatD = true
    · simp only [c, and_self, if_true] at e
      cases e
      obtain ⟨p, vs, g, rfl, h1, h2⟩ := seq_of sm hy ei
      obtain ⟨k1, k2⟩ := flat_of hx c.1
      obtain ⟨k3, k4⟩ := flats_of h2 c.2
      refine ⟨p, vs, rfl, h1, k2, k4, ?_⟩
      rw [k1, k3]
      exact q (.bl _) _ (Rep.o (d := .bl _) rfl)
    · simp only [c, if_false] at e; cases e
/-- a sign in a text -/
def gInS (neg : Bool) (a b : D) : Option D := match a, b with
  | .str c, .str z => match c.cps.toList with
    | [k] => some (.bl (if neg then !decide (k ∈ z.cps.toList) else decide (k ∈ z.cps.toList)))
    | _ => none
  | _, _ => none
theorem str_one {c : Str} {k : Nat} (h : c.cps.toList = [k]) : c = ⟨#[k]⟩ := by
  cases c with
  | mk cps =>
    have : cps = #[k] := by
      apply Array.toList_inj.mp
      exact h
    rw [this]
theorem sInS : OpS K (fun x y H Q => ∃ (c : Nat) (z : Str), x = .str ⟨#[c]⟩ ∧ y = .str z ∧ Q (.bl (decide (c ∈ z.cps.toList))) H) (gInS false) := by
  intro ca F H x y a b d f1 f2 Q sm hx hy e q
  unfold gInS at e
  split at e
  · rename_i c z
    split at e
    · rename_i k h
      cases e
      exact ⟨k, z, by rw [(show x = .str c from hx.1), str_one h], hy.1, q (.bl _) _ (Rep.o (d := .bl _) rfl)⟩
    · cases e
  · cases e

theorem sNotInS : OpS K (fun x y H Q => ∃ (c : Nat) (z : Str), x = .str ⟨#[c]⟩ ∧ y = .str z ∧ Q (.bl (!decide (c ∈ z.cps.toList))) H) (gInS true) := by
  intro ca F H x y a b d f1 f2 Q sm hx hy e q
  unfold gInS at e
  split at e
  · rename_i c z
    split at e
    · rename_i k h
      cases e
      exact ⟨k, z, by rw [(show x = .str c from hx.1), str_one h], hy.1, q (.bl _) _ (Rep.o (d := .bl _) rfl)⟩
    · cases e
  · cases e

end
end Bn

/-! Append, slices, join, the module's constants. -/
namespace Bn
open PySem PySem.Spec PyProof.Rows L2
section
variable {X : Cx} {B : Bx} {W : WX}
def sApp (i : Nat) (m : ME) : MS := fun τ => match τ.getD i none with
  | some (.lst true _) => (m τ).s fun d τ1 => (match τ1.getD i none with
    | some (.lst true es) => if es.length < 1000000 then .nx (τ1.set i (some (.lst true (es ++ [d])))) else .bad
    | _ => .bad)
  | _ => .bad
theorem s_app {i : Nat} {o e : Expr} {apos cpos pos : Pos} {m : ME} (ho : PE X o (tVar i)) (he : PE X e (rdE X.K B W m))
    (hbase : attributeBase o "append" X.env (eval o X.env) = eval o X.env := by rfl)
    (hfew : ((backTo cpos (starEach [e] X.env)).all (fun x => !x.1) && (backToKw cpos (keywordEach [] X.env)).all (fun x => x.1.isSome)
      && decide ([e].length + ([] : List Keyword).length + (if ([] : List Keyword).isEmpty then 0 else 1) < 30)) = true := by rfl)
    (hline : (apos.endLine == cpos.line) = true := by rfl) (hs : starEach [e] X.env = (false, eval e X.env) :: starEach [] X.env := by rfl) (hplain : (backTo cpos (starEach [] X.env)).any (·.1) = false := by rfl)
    (hsw : swapsWith (.Call (.Attribute o "append" apos) [e] [] cpos) none pos.line X.env = pure false := by rfl) : PS X (.Expr (.Call (.Attribute o "append" apos) [e] [] cpos) pos) (rdS X.K B W (sApp i m)) :=
  PS.imp (ps_expr (pe_bm PySem.F.plainAttrs_list PySem.F.slot_list_append PySem.F.type_list_append mt_append ho (pa_cons he pa_nil hs) hbase hfew hline hs hplain) hsw) fun D σ H ⟨F, τ, vs, ds, s, p⟩ => by
    unfold sApp at p
    split at p
    · rename_i es0 e0
      obtain ⟨v, f, h1, a, us, g, rfl, h2, _⟩ := s.get (getD_some e0)
      refine ⟨.ref a, h1, .inl ⟨rfl, us, sqOf h2⟩, F, τ, vs, ds, s, post_imp (post_s (σ := σ) p) (fun d τ1 q y F1 H1 s1 => ?_) fun _ _ q => q⟩
      split at q
      · rename_i es e1
        have e1' := getD_some e1
        obtain ⟨v, k1, s2⟩ := s1.take e1'
        rw [h1] at k1
        cases k1
        by_cases hl : es.length < 1000000
        · rw [if_pos hl] at q
          obtain ⟨f, a', us', g, ea, hx, hg, _⟩ := s2.top
          cases ea
          refine ⟨a, us', y, rfl, rfl, hx, by rw [hg.length, sizeLine_eq]; omega, ?_⟩
          have s3 := s2.change (us := [y]) (ds := [d]) (ys := us' ++ [y]) (es2 := es ++ [d]) rfl hx fun g1 g2 r1 r2 => ⟨_, r1.append r2, fun b => Nat.le_refl _⟩
          have s4 := s3.putBack (i := i) (by rw [List.length_set]; exact (List.getElem?_eq_some_iff.mp e1').1) h1
          rw [List.set_set] at s4
          exact q σ F1 _ s4
        · rw [if_neg hl] at q; exact q.elim
      · exact q.elim
    · exact p.elim

/-! ### slices -/
def rdP (K : PySem.W.Frag) (B : Bx) (W : WX) (p : Env → R (Option Int)) : TO := fun σ H Q => ∃ F τ vs ds, StT K B F H σ τ vs ds ∧ post (fun o τ' => ∀ F' H', StT K B F' H' σ τ' vs ds → Q o H') (exW K B W σ vs ds) (p τ)
theorem PO.imp {e : Option Expr} {t t' : TO} (h : PO X e t) (k : ∀ σ H Q, t' σ H Q → t σ H Q) : PO X e t' := ⟨fun p s σ H Q I q => h.run p s σ H Q I (k _ _ _ q)⟩
def pNone : Env → R (Option Int) := fun τ => .ok none τ
def pSome (m : ME) : Env → R (Option Int) := fun τ => (m τ).bind fun d τ1 => match d with
  | .int i => .ok (some i) τ1
  | _ => .bad
theorem pe_none : PO X none (rdP X.K B W pNone) := PO.imp po_none fun σ H Q ⟨F, τ, vs, ds, s, k⟩ => k F H s
theorem pe_some {e : Expr} {m : ME} (h : PE X e (rdE X.K B W m)) : PO X (some e) (rdP X.K B W (pSome m)) := PO.imp (po_some h) fun σ H Q ⟨F, τ, vs, ds, s, k⟩ => by
  refine ⟨F, τ, vs, ds, s, post_imp (post_bind k) (fun d τ1 q v F1 H1 s1 => ?_) fun _ _ q => q⟩
  cases d with
  | int i => exact ⟨i, s1.topF rfl, q F1 H1 s1.pop⟩
  | _ => exact False.elim q
def cutL {α : Type} (xs : List α) (lo hi : Option Int) : List α := (xs.drop (HT.sIx xs.length 0 lo)).take (HT.sIx xs.length xs.length hi - HT.sIx xs.length 0 lo)
theorem RepL.drop {K : PySem.W.Frag} {ca : Str → Addr} {F : Hp} : ∀ {ds : List D} {vs : List V} (n : Nat), RepL K ca F ds vs → RepL K ca F (ds.drop n) (vs.drop n)
  | [], vs, n, h => by cases (show vs = [] from h); simp; exact rfl
  | d :: ds, vs, 0, h => h
  | d :: ds, _, n + 1, ⟨v, r, h1, h2, h3⟩ => by subst h1; exact h3.drop n
theorem RepL.take {K : PySem.W.Frag} {ca : Str → Addr} {F : Hp} : ∀ {ds : List D} {vs : List V} (n : Nat), RepL K ca F ds vs → RepL K ca F (ds.take n) (vs.take n)
  | [], vs, n, h => by cases (show vs = [] from h); simp; exact rfl
  | d :: ds, vs, 0, h => rfl
  | d :: ds, _, n + 1, ⟨v, r, h1, h2, h3⟩ => by subst h1; exact ⟨v, r.take n, rfl, h2, h3.take n⟩
theorem RepL.cut {K : PySem.W.Frag} {ca : Str → Addr} {F : Hp} {ds : List D} {vs : List V} (h : RepL K ca F ds vs) (lo hi : Option Int) : RepL K ca F (cutL ds lo hi) (cutV vs lo hi) := by
  unfold cutL cutV
  rw [h.length]
  exact (h.drop _).take _
def slR (d : D) (p r : Env → R (Option Int)) (f : D → Option Int → Option Int → Option D) (τ : Env) : R D := (p τ).bind fun lo τ1 => (r τ1).bind fun hi τ2 => match f d lo hi with
  | some x => .ok x τ2
  | none => .bad
def cutLd (d : D) (lo hi : Option Int) : Option D := match d with
  | .lst _ es => some (.lst true (cutL es lo hi))
  | .cst es => some (.lst true (cutL es lo hi))
  | _ => none
def cutSd (d : D) (lo hi : Option Int) : Option D := match d with
  | .str z => if z.length ≤ 1000000 then some (.str (cutS z lo hi)) else none
  | _ => none
def cutTd (d : D) (lo hi : Option Int) : Option D := match d with
  | .tup es => if HT.sIx es.length 0 lo = 0 ∧ HT.sIx es.length es.length hi = es.length then none else some (.tup (cutL es lo hi))
  | _ => none
def eSlice (f : D → Option Int → Option Int → Option D) (m : ME) (p r : Env → R (Option Int)) : ME := fun τ => (m τ).bind fun d τ1 => slR (freeze d) p r f τ1
theorem e_slice {e : Expr} {lo hi : Option Expr} {p2 pos : Pos} {m : ME} {p r : Env → R (Option Int)} {rd : V → Option Int → Option Int → Hp → VK → Prop} {f : D → Option Int → Option Int → Option D} (hr : SlR X rd)
    (hf : ∀ {F H σ τ v vs d ds l h x Q}, isFz d = true → f d l h = some x → StT X.K B F H σ τ (v :: vs) (d :: ds) → (∀ u F' H', StT X.K B F' H' σ τ (u :: vs) (x :: ds) → Q u H') → rd v l h H Q)
    (he : PE X e (rdE X.K B W m)) (hl : PO X lo (rdP X.K B W p)) (hu : PO X hi (rdP X.K B W r)) : PE X (.Subscript e (.Slice lo hi none p2) pos) (rdE X.K B W (eSlice f m p r)) :=
  PE.imp (pe_slice hr he hl hu) fun σ H Q ⟨F, τ, vs, ds, s, k⟩ => by
    refine ⟨F, τ, vs, ds, s, post_imp (post_bind k) (fun d τ1 q v F1 H1 s1 => ?_) fun _ _ q => q⟩
    obtain ⟨F2, s2⟩ := s1.freeze1
    refine ⟨F2, τ1, _, _, s2, post_imp (post_bind q) (fun l τ2 q F3 H3 s3 => ?_) fun c τ2 q F3 H3 s3 => q F3 H3 s3.pop⟩
    refine ⟨F3, τ2, _, _, s3, post_imp (post_bind q) (fun h τ3 q F4 H4 s4 => ?_) fun c τ2 q F3 H3 s3 => q F3 H3 s3.pop⟩
    cases ef : f (freeze d) l h with
    | none => rw [ef] at q; exact False.elim q
    | some x =>
      rw [ef] at q
      exact hf (freeze_fz d) ef s4 q
theorem e_sliceL {e : Expr} {lo hi : Option Expr} {p2 pos : Pos} {m : ME} {p r : Env → R (Option Int)} (he : PE X e (rdE X.K B W m)) (hl : PO X lo (rdP X.K B W p)) (hu : PO X hi (rdP X.K B W r)) : PE X (.Subscript e (.Slice lo hi none p2) pos) (rdE X.K B W (eSlice cutLd m p r)) :=
  e_slice sl_list (fun {F H σ τ v vs d ds l h x Q} z e s k => by
    cases d with
    | lst b es =>
      cases b with
      | true => cases z
      | false =>
        cases (show some (D.lst true (cutL es l h)) = some x from e)
        obtain ⟨a, us, ev, h1, h2⟩ := s.topF rfl
        subst ev
        exact ⟨a, us, rfl, sqOf (s.same _ _ h1), fun np hnp => k _ _ _ (((s.pop).pushL (h2.cut l h)).newLst (h2.cut l h).length hnp)⟩
    | cst es =>
      cases (show some (D.lst true (cutL es l h)) = some x from e)
      obtain ⟨a, us, ev, h1, h2⟩ := s.topF rfl
      subst ev
      exact ⟨a, us, rfl, s.same.seq h1, fun np hnp => k _ _ _ (((s.pop).pushL (h2.cut l h)).newLst (h2.cut l h).length hnp)⟩
    | _ => cases e) he hl hu
theorem e_sliceS {e : Expr} {lo hi : Option Expr} {p2 pos : Pos} {m : ME} {p r : Env → R (Option Int)} (he : PE X e (rdE X.K B W m)) (hl : PO X lo (rdP X.K B W p)) (hu : PO X hi (rdP X.K B W r)) : PE X (.Subscript e (.Slice lo hi none p2) pos) (rdE X.K B W (eSlice cutSd m p r)) :=
  e_slice sl_str (fun {F H σ τ v vs d ds l h x Q} z e s k => by
    cases d with
    | str zz =>
      by_cases hz : zz.length ≤ 1000000
      · have e' : (if zz.length ≤ 1000000 then some (D.str (cutS zz l h)) else none) = some x := e
        rw [if_pos hz] at e'
        cases e'
        exact ⟨zz, s.topF rfl, le_sizeLine hz, k _ _ _ (s.pop.push (d := .str _) rfl)⟩
      · have e' : (if zz.length ≤ 1000000 then some (D.str (cutS zz l h)) else none) = some x := e
        rw [if_neg hz] at e'; cases e'
    | _ => cases e) he hl hu
theorem e_sliceT {e : Expr} {lo hi : Option Expr} {p2 pos : Pos} {m : ME} {p r : Env → R (Option Int)} (he : PE X e (rdE X.K B W m)) (hl : PO X lo (rdP X.K B W p)) (hu : PO X hi (rdP X.K B W r)) : PE X (.Subscript e (.Slice lo hi none p2) pos) (rdE X.K B W (eSlice cutTd m p r)) :=
  e_slice sl_tup (fun {F H σ τ v vs d ds l h x Q} z e s k => by
    cases d with
    | tup es =>
      by_cases hw : HT.sIx es.length 0 l = 0 ∧ HT.sIx es.length es.length h = es.length
      · have e' : (if HT.sIx es.length 0 l = 0 ∧ HT.sIx es.length es.length h = es.length then none else some (D.tup (cutL es l h))) = some x := e
        rw [if_pos hw] at e'; cases e'
      · have e' : (if HT.sIx es.length 0 l = 0 ∧ HT.sIx es.length es.length h = es.length then none else some (D.tup (cutL es l h))) = some x := e
        rw [if_neg hw] at e'
        cases e'
        obtain ⟨a, us, ev, h1, h2⟩ := s.topF rfl
        subst ev
        exact ⟨a, us, rfl, sqT_same s.same h1, by rw [h2.length]; exact hw, fun np hnp => k _ _ _ (s.pop.newTup hnp (h2.cut l h))⟩
    | _ => cases e) he hl hu

/-! ### join -/
def strsOf : List D → Option (List Str)
  | [] => some []
  | .str i :: r => (strsOf r).map (i :: ·)
  | _ => none
theorem strs_map : ∀ ns : List Str, strsOf (ns.map D.str) = some ns
  | [] => rfl
  | i :: r => by show (strsOf (r.map D.str)).map (i :: ·) = _; rw [strs_map r]; rfl
theorem repOs_strs {K : PySem.W.Frag} {ca : Str → Addr} {F H : Hp} : ∀ {ds : List D} {vs : List V} {f : Ct} {ns : List Str}, RepOs K ca F H ds vs f → strsOf ds = some ns → vs = ns.map V.str
  | [], vs, f, ns, h, e => by
    cases (show some [] = some ns from e)
    exact h.1
  | d :: r, vs, f, ns, h, e => by
    obtain ⟨v, r', f1, f2, h1, h2, h3, _⟩ := h
    cases d with
    | str i =>
      have e' : (strsOf r).map (i :: ·) = some ns := e
      cases e2 : strsOf r with
      | none => rw [e2] at e'; cases e'
      | some ms =>
        rw [e2] at e'
        cases (show some (i :: ms) = some ns from e')
        rw [h1, repOs_strs h3 e2, (show v = .str i from h2.1)]
        rfl
    | _ => cases e
def eJoin (a b : ME) : ME := fun τ => (a τ).bind fun x τ1 => match x with
  | .str z => (b τ1).bind fun y τ2 => (match (itemsD y).bind strsOf with
    | some ys => if (ys.map (·.length)).sum + ys.length * z.length ≤ 1000000 then .ok (.str (Txt.join z ys)) τ2 else .bad
    | none => .bad)
  | _ => .bad
theorem e_join {o e : Expr} {apos pos : Pos} {a b : ME} (ho : PE X o (rdE X.K B W a)) (he : PE X e (rdE X.K B W b)) (hs : starEach [e] X.env = [(false, eval e X.env)] := by rfl) (hbase : attributeBase o "join" X.env (eval o X.env) = eval o X.env := by rfl) (hline : (apos.endLine == pos.line) = true := by rfl) :
    PE X (.Call (.Attribute o "join" apos) [e] [] pos) (rdE X.K B W (eJoin a b)) := PE.imp (pe_join ho he hs hbase hline) fun σ H Q ⟨F, τ, vs, ds, s, k⟩ => by
  refine ⟨F, τ, vs, ds, s, post_imp (post_bind k) (fun d τ1 q v F1 H1 s1 => ?_) fun _ _ q => q⟩
  cases d with
  | str z =>
    refine ⟨⟨z, s1.topF rfl⟩, F1, τ1, _, _, s1, post_imp (post_bind q) (fun d τ2 q w F2 H2 s2 => ?_) fun c τ2 q F2 H2 s2 => q F2 H2 s2.pop⟩
    split at q
    · rename_i ys ey
      obtain ⟨es, e1, e2⟩ := bind_some ey
      obtain ⟨f, hw⟩ := s2.top
      obtain ⟨p, us, g, rfl, h1, h2⟩ := seq_of s2.same hw e1
      by_cases hz : (ys.map (·.length)).sum + ys.length * z.length ≤ 1000000
      · rw [if_pos hz] at q
        refine ⟨z, p, ys, s1.topF rfl, rfl, by rw [← repOs_strs h2 e2]; exact h1, by omega, q _ _ _ (s2.pop.pop.push (d := .str _) rfl)⟩
      · rw [if_neg hz] at q; exact False.elim q
    · exact False.elim q
  | _ => exact False.elim q

/-! ### the module's constants -/
structure Kc (K : PySem.W.Frag) (mg : Str → Option Value) (x : Str) (d : D) : Prop where
  ex : ∃ v u, mg x = some u ∧ RelV v u ∧ ∀ ca F, Rep K ca F d v
theorem z_k {x : Str} {d : D} {pos : Pos} (k : Kc X.K X.mg x d) (hg : Gl X x) (hd : (x == ("__debug__" : Str)) = false := by decide) : PE X (.Name x pos) (rdZ X.K B (zC d)) := by
  obtain ⟨v, u, h1, h2, h3⟩ := k.ex
  exact z_c (pe_glob hg h1 h2 hd) fun F => h3 _ F
theorem kc_str {K : PySem.W.Frag} {mg : Str → Option Value} {x s : Str} {t : Tok} (h : mg x = some (.str s t)) : Kc K mg x (.str s) := ⟨.str s, _, h, ⟨t, rfl⟩, fun _ _ => rfl⟩
theorem kc_int {K : PySem.W.Frag} {mg : Str → Option Value} {x : Str} {s : Int} {t : Tok} (h : mg x = some (.int s t)) : Kc K mg x (.int s) := ⟨.int s, _, h, ⟨t, rfl⟩, fun _ _ => rfl⟩
/-- a tuple of texts -/
theorem repL_strs {K : PySem.W.Frag} {ca : Str → Addr} {F : Hp} : ∀ ss : List Str, RepL K ca F (ss.map D.str) (ss.map V.str)
  | [] => rfl
  | s :: r => ⟨.str s, r.map V.str, rfl, rfl, repL_strs r⟩
theorem kc_tupS {K : PySem.W.Frag} {mg : Str → Option Value} {x : Str} {a : Addr} {ss : List Str} (h : mg x = some (.ref a)) (hs : ∀ H, SqT K H a (ss.map V.str)) : Kc K mg x (.tup (ss.map D.str)) := ⟨.ref a, _, h, rfl, fun ca F => ⟨a, _, rfl, hs F, repL_strs ss⟩⟩
end
end Bn

/-! try .. except X as e: a suite that asks isinstance of e. -/
namespace Bn
open PySem PySem.Spec PyProof.Rows L2
abbrev Bx.withE (B : Bx) (i : Nat) (a : Addr) : Bx := { B with io := (i, .ref a) :: B.io }
theorem ioE {B : Bx} {i j : Nat} {a : Addr} (h : i ≠ j) (k : ioFree B j := by intro p hp; cases hp) : ioFree (B.withE i a) j := fun p hp => by
  rcases List.mem_cons.mp hp with rfl | hp
  · exact h
  · exact k p hp
def endAs (i : Nat) (r : SR) : SR := match r with
  | .nx τ => .nx (τ.set i none)
  | .rt d τ => .rt d τ
  | .bk τ => .bk (τ.set i none)
  | .ct τ => .ct (τ.set i none)
  | _ => .bad
def tryAs (i : Nat) (o : Option Bool) (c : Str) (τ : Env) (su : Str → MS) : SR := match o with
  | some true => if i < τ.length then endAs i (su c (τ.set i none)) else .bad
  | some false => .ex c τ
  | none => .bad
def sTryAs (i : Nat) (sub : Str → Option Bool) (b : MS) (su : Str → MS) : MS := fun τ => match b τ with
  | .ex c τ' => tryAs i (sub c) c τ' su
  | .nx τ' => .nx τ'
  | .rt d τ' => .rt d τ'
  | .bk τ' => .bk τ'
  | .ct τ' => .ct τ'
  | .bad => .bad
section
variable {X : Cx} {B : Bx} {W : WX}
theorem StT.withE {K : PySem.W.Frag} {F H : Hp} {σ : L2.St} {τ : Env} {vs : List V} {ds : List D} {i : Nat} {a : Addr} (s : StT K B F H σ τ vs ds) (hi : i < τ.length) (hf : ioFree B i) : StT K (B.withE i a) F H (σ.set i (some (.ref a))) (τ.set i none) vs ds := by
  have s1 := s.forget (i := i)
  have io : IoOk B σ := by obtain ⟨_, _, _, _, _, io⟩ := s; exact io
  have hl : σ.length = τ.length := by obtain ⟨_, _, A, _⟩ := s; exact A.length
  have s2 : StT K B F H (σ.set i (some (.ref a))) (τ.set i none) vs ds := s1.reset (by simp) (fun j d h => by
    have : j ≠ i := fun e => by
      subst e
      rw [List.getElem?_set_self hi] at h; cases h
    rw [List.getElem?_set_ne this.symm]) fun p hp => by rw [List.getElem?_set_ne (fun e => hf p hp e.symm)]; exact io p hp
  obtain ⟨f1, f2, A, b, w, io2⟩ := s2
  refine ⟨f1, f2, A, b, ⟨w.nd, w.dF, w.dR, w.sF, w.sR, w.s0, w.fr⟩, fun p hp => ?_⟩
  rcases List.mem_cons.mp hp with rfl | hp
  · rw [List.getElem?_set_self (by omega)]
  · exact io2 p hp
theorem StT.outE {K : PySem.W.Frag} {F H : Hp} {σ : L2.St} {τ : Env} {vs : List V} {ds : List D} {i : Nat} {a : Addr} (s : StT K (B.withE i a) F H σ τ vs ds) : StT K B F H σ τ vs ds := by
  obtain ⟨f1, f2, A, b, w, io2⟩ := s
  exact ⟨f1, f2, A, b, ⟨w.nd, w.dF, w.dR, w.sF, w.sR, w.s0, w.fr⟩, fun p hp => io2 p (List.mem_cons_of_mem _ hp)⟩
theorem StT.clearE {K : PySem.W.Frag} {F H : Hp} {σ : L2.St} {τ : Env} {vs : List V} {ds : List D} {i : Nat} (s : StT K B F H σ τ vs ds) (hf : ioFree B i) : StT K B F H (σ.set i none) (τ.set i none) vs ds := by
  have s1 := s.forget (i := i)
  have io : IoOk B σ := by obtain ⟨_, _, _, _, _, io⟩ := s; exact io
  have hl : σ.length = τ.length := by obtain ⟨_, _, A, _⟩ := s; exact A.length
  exact s1.reset (by simp) (fun j d h => by
    have : j ≠ i := fun e => by
      subst e
      by_cases hj : j < τ.length
      · rw [List.getElem?_set_self hj] at h; cases h
      · rw [List.getElem?_eq_none (by simp; omega)] at h; cases h
    rw [List.getElem?_set_ne this.symm]) fun p hp => by rw [List.getElem?_set_ne (fun e => hf p hp e.symm)]; exact io p hp
theorem s_tryAs {i : Nat} {x n : Str} {cv : Value} {body suite : List Stmt} {b₀ : Stmt} {np pos pos' : Pos} {b : MS} {su : Str → MS} (c : XOk X W) (hN : X.N.Nodup) (hi : X.N[i]? = some n) (hln : X.env.kindOf n = some .local) (sub : Str → Option Bool) (hn : Names X x cv) (hsub : ∀ y t, sub y = some t → PySem.W.exmOne X.K (.ref (B.ca y)) cv = some t) (hs : X.stack = X.env :: X.outer) (hf : X.env.frame = some X.env.locals)
    (hb : ∀ (W' : WX) (pn : List (Addr × Obj)) (xe : Value → Shared → Prop), XOk (X.tr pn xe) W' → PSs (X.tr pn xe) body (rdS X.K B W' b))
    (hsu : ∀ (a : Addr) (oe : Obj) (y : Str) (pn : List (Addr × Obj)), Zc (.ref (B.ca y)) none oe → (∃ vs, oe.data = .fields vs) → PSs (X.suite a ((a, oe) :: pn)) (b₀ :: suite) (rdS X.K (B.withE i a) W0 (su y))) (hio : ioFree B i := by intro p hp; cases hp) :
    PS X (.Try body [.ExceptHandler (some (.Name x np)) (some n) (b₀ :: suite) pos'] [] [] pos) (rdS X.K B W (sTryAs i sub b su)) :=
  PS.imp (ps_try_as (tb := fun W' => rdS X.K B W' b) (ts := fun a cls d => fun D σ H => ∃ y, cls = .ref (B.ca y) ∧ d = none ∧ rdS X.K (B.withE i a) W0 (su y) D σ H) hs hf hN hi hln hn c.tk (fun W' pn xe tk hp => hb W' pn xe ⟨tk, hp, c.calm⟩)
    fun a oe cls d pn hz hv => ⟨fun pins s σ H D I h => by
      obtain ⟨y, rfl, rfl, h⟩ := h
      exact (hsu a oe y pn hz hv).run pins s σ H D I h⟩) fun D σ H ⟨F, τ, vs, ds, s, p⟩ => by
    refine ⟨F, τ, vs, ds, s, ?_⟩
    unfold sTryAs at p
    cases e : b τ with
    | ex y τ' =>
      rw [e] at p
      intro σ' F' H' s'
      cases es : sub y with
      | none => simp only [es, tryAs] at p; exact p.elim
      | some t =>
        simp only [es] at p
        refine ⟨t, hsub y t es, fun ht a ha => ?_, fun ht => ?_⟩
        · subst ht
          by_cases hl : i < τ'.length
          · simp only [tryAs, hl, if_true] at p
            refine ⟨y, rfl, rfl, F', _, vs, ds, s'.withE hl hio, ?_⟩
            cases e2 : su y (τ'.set i none) with
            | nx τ2 => rw [e2] at p; exact fun σ2 F2 H2 s2 => p _ F2 H2 (s2.outE.clearE hio)
            | rt d τ2 => rw [e2] at p; exact fun v σ2 F2 H2 s2 => p v σ2 F2 H2 s2.outE
            | bk τ2 => rw [e2] at p; exact fun σ2 F2 H2 s2 => p _ F2 H2 (s2.outE.clearE hio)
            | ct τ2 => rw [e2] at p; exact fun σ2 F2 H2 s2 => p _ F2 H2 (s2.outE.clearE hio)
            | ex c2 τ2 => rw [e2] at p; exact p.elim
            | bad => rw [e2] at p; exact p.elim
          · simp only [tryAs, hl, if_false] at p; exact p.elim
        · subst ht; exact p σ' F' H' s'
    | _ => rw [e] at p; exact p
def eIs (o : Option Bool) : ME := fun τ => match o with
  | some b => .ok (.bl b) τ
  | none => .bad
theorem e_isE {i : Nat} {a : Addr} {oe : Obj} {pn : List (Addr × Obj)} {y : Str} {n A : Str} {vA : V} {cvA : Value} {o : Option Bool} {p p1 p2 pos : Pos} (hz : Zc (.ref (B.ca y)) none oe) (hv : ∃ vs, oe.data = .fields vs)
    (he : PE (X.suite a ((a, oe) :: pn)) (.Name n p1) (tVar i)) (hA : PE (X.suite a ((a, oe) :: pn)) (.Name A p2) (tC vA)) (hcv : ∀ u, RelV vA u → u = cvA) (hC : ∀ t, o = some t → ExcC X.K (B.ca y) ∧ PySem.W.kitOne X.K (.ref (B.ca y)) cvA = some t)
    (hg : Gl (X.suite a ((a, oe) :: pn)) "isinstance") (hm : X.mg "isinstance" = none)
    (hs1 : starEach [.Name n p1, .Name A p2] (X.suite a ((a, oe) :: pn)).env = (false, eval (.Name n p1) (X.suite a ((a, oe) :: pn)).env) :: starEach [.Name A p2] (X.suite a ((a, oe) :: pn)).env := by rfl)
    (hs2 : starEach [.Name A p2] (X.suite a ((a, oe) :: pn)).env = (false, eval (.Name A p2) (X.suite a ((a, oe) :: pn)).env) :: starEach [] (X.suite a ((a, oe) :: pn)).env := by rfl)
    (hpl : (backTo pos (starEach [.Name A p2] (X.suite a ((a, oe) :: pn)).env)).any (·.1) = false := by rfl) :
    PE (X.suite a ((a, oe) :: pn)) (.Call (.Name "isinstance" p) [.Name n p1, .Name A p2] [] pos) (rdE X.K (B.withE i a) W0 (eIs o)) := by
  cases o with
  | none => exact ⟨fun _ _ _ _ _ _ ⟨F, τ, vs, ds, s, h⟩ => False.elim h⟩
  | some t =>
    obtain ⟨C, hk⟩ := hC t rfl
    refine PE.imp (pe_callB (call_isE C hz hv) hg hm (by decide +kernel) (pa_cons he (pa_cons hA pa_nil hs2) hs1) (by decide) (by decide) hs1 hpl) fun σ H Q ⟨F, τ, vs, ds, s, h⟩ => ?_
    have io : IoOk (B.withE i a) σ := by obtain ⟨_, _, _, _, _, io⟩ := s; exact io
    exact ⟨.ref a, io (i, .ref a) List.mem_cons_self, vA, cvA, t, rfl, hcv, hk, h (.bl t) F H (s.push (d := .bl t) rfl)⟩
end
theorem kit_same {K : PySem.W.Frag} {a : Addr} : PySem.W.kitOne K (.ref a) (.ref a) = some true := by
  unfold PySem.W.kitOne
  rw [if_pos (by simp)]
theorem kit_type {K : PySem.W.Frag} {a : Addr} {T : String} {b : Bool} (hm : PySem.W.kitMeta T = true) (h : PySem.W.subIn K (.ref a) (.type T) = some b) : PySem.W.kitOne K (.ref a) (.type T) = some b := by
  unfold PySem.W.kitOne
  rw [if_neg (by intro z; cases z)]
  unfold PySem.W.kitCls
  simp only [hm, if_true]
  exact h
theorem kit_ref {K : PySem.W.Frag} {a x : Addr} {b : Bool} (h1 : PySem.W.hasDictIn K x = true) (ht : PySem.W.typeIn K (.ref x) = some (.type "type")) (h4 : PySem.W.subIn K (.ref a) (.ref x) = some b) (hb : b = true ∨ (a == x) = false) : PySem.W.kitOne K (.ref a) (.ref x) = some b := by
  obtain ⟨cd, hc, _⟩ := PySem.W.any_some h1
  have e2 : ((PySem.W.clsIn K x).isSome && PySem.W.typeIn K (.ref x) == some (.type "type")) = true := by rw [hc, ht] <;> rfl
  unfold PySem.W.kitOne
  by_cases e : a = x
  · subst e
    rw [if_pos (by simp)]
    rcases hb with rfl | hb
    · rfl
    · simp at hb
  · rw [if_neg (by simp; exact e)]
    show (if ((PySem.W.clsIn K x).isSome && PySem.W.typeIn K (.ref x) == some (.type "type")) = true then PySem.W.subIn K (.ref a) (.ref x) else none) = some b
    rw [if_pos e2]
    exact h4
theorem exm_type {K : PySem.W.Frag} {a : Addr} {T : String} {b : Bool} (h1 : PySem.W.subIn K (.type T) (.type "BaseException") = some true) (hm : PySem.W.kitMeta T = true) (h : PySem.W.subIn K (.ref a) (.type T) = some b) : PySem.W.exmOne K (.ref a) (.type T) = some b := by
  unfold PySem.W.exmOne
  rw [if_pos (by rw [h1]; rfl)]
  unfold PySem.W.kitCls
  simp only [hm, if_true]
  exact h
end Bn
namespace Bn
open PySem PySem.Spec PyProof.Rows L2
/-- list(xs): a new list -/
def eLstOf (m : MA) : ME := fun τ => (m τ).bind fun ds τ1 => match freezeL ds with
  | [.lst _ es] => .ok (.lst true es) τ1
  | [.tup es] => .ok (.lst true es) τ1
  | _ => .bad
theorem e_lstOf {X : Cx} {B : Bx} {W : WX} {x : Str} {p pos : Pos} {e : Expr} {m : MA} (hg : Gl X x) (hm : X.mg x = none) (hv : bootBuiltins x = some (.type "list")) (ha : PA X [e] (rdA X.K B W m)) (hn : x ≠ "__name__" := by decide) (hdb : (x == ("__debug__" : Str)) = false := by decide)
    (he : starEach [e] X.env = (false, eval e X.env) :: starEach [] X.env := by rfl) (hpl : (backTo pos (starEach [] X.env)).any (·.1) = false := by rfl) : PE X (.Call (.Name x p) [e] [] pos) (rdE X.K B W (eLstOf m)) := PE.imp (pe_callTy call_list_of hg hm hv ha hn hdb he hpl) fun σ H Q ⟨F, τ, vs, ds, s, p⟩ => by
  refine ⟨F, τ, vs, ds, s, post_imp (post_bind p) (fun es τ1 q us F1 H1 hl s1 => ?_) fun _ _ q => q⟩
  obtain ⟨F2, sm, rl, s2⟩ := s1.freeze hl
  match h : freezeL es, q, rl with
  | [.lst b xs], q, rl =>
    obtain ⟨v, r, rfl, r1, r2⟩ := rl
    cases (show r = [] from r2)
    cases b with
    | true => exact r1.elim
    | false =>
      obtain ⟨a, ws, rfl, h1, h2⟩ := r1
      exact ⟨a, ws, rfl, .inl (sqOf (s2.same _ _ h1)), fun l hl => q _ _ _ ((s2.pushL h2).newLst h2.length hl)⟩
  | [.tup xs], q, rl =>
    obtain ⟨v, r, rfl, r1, r2⟩ := rl
    cases (show r = [] from r2)
    obtain ⟨a, ws, rfl, h1, h2⟩ := r1
    exact ⟨a, ws, rfl, .inr (sqT_same s2.same h1), fun l hl => q _ _ _ ((s2.pushL h2).newLst h2.length hl)⟩
end Bn

/-! Objects of own classes that never change once they are made; lists joined. -/
namespace Bn
open PySem PySem.Spec PyProof.Rows L2
theorem upd_upd {H : Hp} {a : Addr} {x y : HO} : upd (upd H a x) a y = upd H a y := by
  funext b
  by_cases h : b = a
  · subst h; rw [upd_same, upd_same]
  · rw [upd_ne h, upd_ne h, upd_ne h]
/-! ### __init__: one attribute after the other -/
def rdIn (K : PySem.W.Frag) (C : Addr) : List (Str × Nat) → TS
  | [] => fun D σ H => D.nx σ H
  | (f, i) :: r => fun D σ H => ∃ a dx fs y, σ[0]? = some (some (V.ref a)) ∧ σ[i]? = some (some y) ∧ H a = some (.ins C dx fs) ∧ NoAttr K C f ∧ fs.length < 1000 ∧ rdIn K C r D σ (upd H a (.ins C dx (putF f y fs)))
section
variable {X : Cx} {C : Addr}
theorem in_nil : PSs X [] (rdIn X.K C []) := PSs.imp pss_nil fun D σ H h => h
theorem in_cons {f : Str} {i : Nat} {o v : Expr} {pos pos' : Pos} {r : List Stmt} {as : List (Str × Nat)} (cl : Cls X.K C) (ho : PE X o (tVar 0)) (hv : PE X v (tVar i)) (hr : PSs X r (rdIn X.K C as)) (hs : swapsWith v (some (.Attribute o f pos')) pos.line X.env = pure false := by rfl) :
    PSs X (.Assign [.Attribute o f pos'] v pos :: r) (rdIn X.K C ((f, i) :: as)) := PSs.imp (pss_cons (ps_fld ho hv hs) hr) fun D σ H h => by
  obtain ⟨a, dx, fs, y, h1, h2, h3, h4, h5, h6⟩ := h
  exact ⟨y, h2, .ref a, h1, a, C, dx, fs, rfl, h3, cl, h4, h5, h6⟩
end
theorem putF_new (f : Str) (v : V) : ∀ fs : List (Str × V), f ∉ fs.map (·.1) → putF f v fs = fs ++ [(f, v)]
  | [], _ => rfl
  | (g, x) :: r, h => by
    have h1 : ¬ g = f := fun e => h (by rw [List.map_cons, e]; exact List.mem_cons_self)
    have h2 : f ∉ r.map (·.1) := fun e => h (by rw [List.map_cons]; exact List.mem_cons_of_mem _ e)
    show (if g = f then (g, v) :: r else (g, x) :: putF f v r) = _
    rw [if_neg h1, putF_new f v r h2]
    rfl
theorem in_run {K : PySem.W.Frag} {C : Addr} {D : Ends} {σ : L2.St} {a dx : Addr} (h0 : σ[0]? = some (some (V.ref a))) : ∀ (ns : List Str) (ws : List V) (k : Nat) (fs : List (Str × V)) (H : Hp), ws.length = ns.length → (∀ i w, ws[i]? = some w → σ[k + i]? = some (some w)) → (∀ n ∈ ns, NoAttr K C n) → (fs.map (·.1) ++ ns).Nodup →
    fs.length + ns.length < 1000 → H a = some (.ins C dx fs) → D.nx σ (upd H a (.ins C dx (fs ++ ns.zip ws))) → rdIn K C (ns.zip (List.range' k ns.length)) D σ H
  | [], ws, k, fs, H, hl, hv, hn, nd, sz, hH, q => by
    cases ws with
    | nil =>
      show D.nx σ H
      have e : upd H a (.ins C dx (fs ++ [])) = H := by
        funext b
        by_cases h : b = a
        · subst h; rw [upd_same, List.append_nil]; exact hH.symm
        · rw [upd_ne h]
      rw [← e]; exact q
    | cons _ _ => simp at hl
  | n :: ns, [], k, fs, H, hl, _, _, _, _, _, _ => by simp at hl
  | n :: ns, w :: ws, k, fs, H, hl, hv, hn, nd, sz, hH, q => by
    have nf : n ∉ fs.map (·.1) := fun h => by
      have := (List.nodup_append.mp nd).2.2 n h n List.mem_cons_self
      exact this rfl
    have e := putF_new n w fs nf
    refine ⟨a, dx, fs, w, h0, by simpa using hv 0 w rfl, hH, hn n List.mem_cons_self, by simp at sz; omega, ?_⟩
    rw [e]
    refine in_run h0 ns ws (k + 1) (fs ++ [(n, w)]) _ (by simpa using hl) (fun i y hy => ?_) (fun m hm => hn m (List.mem_cons_of_mem _ hm)) ?_ (by simp at sz ⊢; omega) upd_same ?_
    · have := hv (i + 1) y (by simpa using hy)
      rw [show k + 1 + i = k + (i + 1) by omega]; exact this
    · rw [List.map_append]
      simpa using nd
    · rw [upd_upd]
      simpa using q
def spI (ca : Str → Addr) (c : Str) (ns : List Str) : Sp := fun vs H Q _ => ∃ a dx ws, vs = .ref a :: ws ∧ ws.length = ns.length ∧ H a = some (.ins (ca c) dx []) ∧ Q .non (upd H a (.ins (ca c) dx (ns.zip ws)))
section
variable {P : Program} {w : World} {K : PySem.W.Frag} {mg : Str → Option Value} {base : Heap} {ca : Str → Addr}
theorem init_ok {x qual : Str} {st : Stmt} {f : Addr} {fd : FuncData} {ps : List Str} {c : Str} {ns : List Str} (F : Fun K x qual st f fd) (S : FnScope ps ps (defScope st)) (hps : ps.length = ns.length + 1) (nd : ns.Nodup) (hn : ∀ n ∈ ns, NoAttr K (ca c) n) (hl : ns.length < 1000)
    (hb : ∀ (cdv : Value) (A : Around) (outer : List PySem.Env) (s : Shared) (H : Hp) (E : XK), PSs (cxOf (L2.CX P w) P w K mg base ps qual (defScope st) f cdv A outer s H E) (defBody st) (rdIn K (ca c) (ns.zip (List.range' 1 ns.length)))) :
    FnOk P w K mg base (L2.CX P w) 1 f fd ps (spI ca c ns) := by
  refine F.okX S (fun vs H Q E h => ?_) (fun cdv A outer s H vs Q E hr h => ?_)
  · obtain ⟨a, dx, ws, rfl, h1, _⟩ := h
    rw [List.length_cons, h1, hps]
  · obtain ⟨a, dx, ws, rfl, h1, h2, q⟩ := h
    refine ⟨_, hb cdv A outer s H E, ?_⟩
    have hlen : ps.length - (V.ref a :: ws).length = 0 := by rw [List.length_cons, hps, h1]; omega
    have e0 : L2.start ps (V.ref a :: ws) = some (V.ref a) :: ws.map some := by
      unfold L2.start
      rw [hlen]; simp
    rw [e0]
    refine in_run (dx := dx) rfl ns ws 1 [] H h1 (fun i y hy => ?_) hn (by simpa using nd) (by simpa using hl) h2 ?_
    · rw [show 1 + i = i + 1 by omega, List.getElem?_cons_succ, List.getElem?_map, hy]; rfl
    · rw [List.nil_append]; exact q
/-- a class that can be made -/
structure MkO (P : Program) (w : World) (K : PySem.W.Frag) (mg : Str → Option Value) (base : Heap) (ca : Str → Addr) (x : Str) (ns : List Str) : Prop where
  ex : ∃ f fd ps, Mk K (ca x) f ∧ mg x = some (.ref (ca x)) ∧ Binds K fd ps [] ∧ FnOk P w K mg base (L2.CX P w) 1 f fd ps (spI ca x ns)
/-- a method -/
structure MFo (P : Program) (w : World) (K : PySem.W.Frag) (mg : Str → Option Value) (base : Heap) (ca : Str → Addr) (j : Nat) (c m : Str) (g : List D → CR) : Prop where
  ex : ∃ k f fd ps, k ≤ j ∧ Meth K (ca c) m f ∧ Binds K fd ps [] ∧ FnOk P w K mg base (L2.CX P w) k f fd ps (spP K ca g)
  cl : Cls K (ca c)
theorem MFo.mono {i j : Nat} {c m : Str} {g : List D → CR} (h : MFo P w K mg base ca i c m g) (k : i ≤ j) : MFo P w K mg base ca j c m g := by
  obtain ⟨⟨k', f, fd, ps, h1, h2⟩, cl⟩ := h
  exact ⟨⟨k', f, fd, ps, Nat.le_trans h1 k, h2⟩, cl⟩
def MAll (P : Program) (w : World) (K : PySem.W.Frag) (mg : Str → Option Value) (base : Heap) (ca : Str → Addr) (j : Nat) (m : Str) : List (Str × (List D → CR)) → Prop
  | [] => True
  | p :: r => MFo P w K mg base ca j p.1 m p.2 ∧ MAll P w K mg base ca j m r
theorem MAll.get {j : Nat} {m : Str} : ∀ {As : List (Str × (List D → CR))} {c : Str} {g : List D → CR}, MAll P w K mg base ca j m As → As.lookup c = some g → MFo P w K mg base ca j c m g
  | [], _, _, _, e => by cases e
  | (c', g') :: r, c, g, ⟨h1, h2⟩, e => by
    rw [List.lookup_cons] at e
    by_cases q : c = c'
    · subst q
      simp at e; subst e; exact h1
    · have q' : (c == c') = false := by simpa using q
      rw [q'] at e
      exact h2.get e
end
def eMake (c : Str) (ns : List Str) (m : MA) : ME := fun τ => (m τ).bind fun ds τ1 => if ds.length = ns.length then .ok (.obj false c ns (freezeL ds)) τ1 else .bad
section
variable {X : Cx} {B : Bx} {W : WX}
theorem e_make {x : Str} {p pos : Pos} {e : Expr} {es : List Expr} {m : MA} {ns : List Str} {j : Nat} (c : XOk X W) (G : MkO X.prog X.w X.K X.mg X.base B.ca x ns) (hr : Room j X.A) (hg : Gl X x) (ha : PA X (e :: es) (rdA X.K B W m)) (hk : 2 ≤ j := by decide) (hdb : (x == ("__debug__" : Str)) = false := by decide)
    (he : starEach (e :: es) X.env = (false, eval e X.env) :: starEach es X.env := by rfl) (hpl : (backTo pos (starEach es X.env)).any (·.1) = false := by rfl) : PE X (.Call (.Name x p) (e :: es) [] pos) (rdE X.K B W (eMake x ns m)) := by
  obtain ⟨f, fd, ps, M, hm, hb, F⟩ := G.ex
  refine PE.imp (pe_make M F (hr.mono hk) hg hm hb .nil passL ha hdb he hpl) fun σ H Q h => ?_
  obtain ⟨F, τ, vs, ds, s, p⟩ := h
  refine ⟨F, τ, vs, ds, s, post_imp (post_bind p) (fun as τ1 q us F1 H1 hl s1 => ?_) fun _ _ q => q⟩
  by_cases z : as.length = ns.length
  · rw [if_pos z] at q
    obtain ⟨F2, sm, rl, s2⟩ := s1.freeze hl
    intro y dx ny ndx ne
    refine ⟨y, dx, us, by rw [List.append_nil], hl.trans z, upd_same, rfl, ?_⟩
    rw [upd_upd]
    have s3 := s2.grown (same_upd (o := .own y) ndx)
    have hy : upd H1 dx (.own y) y = none := by rw [upd_ne (Ne.symm ne)]; exact ny
    obtain ⟨s4, sm2⟩ := s3.new (o := .ins (B.ca x) dx (ns.zip us)) hy
    exact q _ _ _ (s4.push ⟨y, dx, _, us, rfl, upd_same, rfl, (hl.trans z).symm, RepL.mono sm2 _ _ rl⟩)
  · rw [if_neg z] at q; exact q.elim
/-! ### attributes -/
def lookD (f : Str) : List Str → List D → Option D
  | n :: ns, x :: xs => if f = n then some x else lookD f ns xs
  | _, _ => none
def gFld (c f : Str) : D → Option D
  | .obj _ c' ns xs => if c' = c then lookD f ns xs else none
  | _ => none
theorem look_rep {K : PySem.W.Frag} {ca : Str → Addr} {F : Hp} {f : Str} {d : D} : ∀ {ns : List Str} {xs : List D} {vs : List V}, RepL K ca F xs vs → lookD f ns xs = some d → ∃ v, (ns.zip vs).lookup f = some v ∧ Rep K ca F d v
  | [], _, _, _, e => by cases e
  | _ :: _, [], _, _, e => by cases e
  | n :: ns, x :: xs, _, ⟨v, r, rfl, h1, h2⟩, e => by
    have e : (if f = n then some x else lookD f ns xs) = some d := e
    rw [List.zip_cons_cons, List.lookup_cons]
    by_cases q : f = n
    · rw [if_pos q] at e
      cases e
      have q' : (f == n) = true := by simpa using q
      rw [q']
      exact ⟨v, rfl, h1⟩
    · rw [if_neg q] at e
      have q' : (f == n) = false := by simpa using q
      rw [q']
      exact look_rep h2 e
theorem look_repO {K : PySem.W.Frag} {ca : Str → Addr} {F H : Hp} {f : Str} {d : D} : ∀ {ns : List Str} {xs : List D} {vs : List V} {g : Ct}, RepOs K ca F H xs vs g → lookD f ns xs = some d → ∃ v g', (ns.zip vs).lookup f = some v ∧ RepO K ca F H d v g'
  | [], _, _, _, _, e => by cases e
  | _ :: _, [], _, _, _, e => by cases e
  | n :: ns, x :: xs, _, _, ⟨v, r, f1, f2, rfl, h1, h2, _⟩, e => by
    have e : (if f = n then some x else lookD f ns xs) = some d := e
    rw [List.zip_cons_cons, List.lookup_cons]
    by_cases q : f = n
    · rw [if_pos q] at e
      cases e
      have q' : (f == n) = true := by simpa using q
      rw [q']
      exact ⟨v, f1, rfl, h1⟩
    · rw [if_neg q] at e
      have q' : (f == n) = false := by simpa using q
      rw [q']
      exact look_repO h2 e
theorem z_fld {e : Expr} {c f : Str} {pos : Pos} {m : MZ} (cl : Cls X.K (B.ca c)) (na : NoAttr X.K (B.ca c) f) (h : PE X e (rdZ X.K B m)) (hb : attributeBase e f X.env (eval e X.env) = eval e X.env := by rfl) : PE X (.Attribute e f pos) (rdZ X.K B (z1 (gFld c f) m)) := PE.imp (pe_fld h hb) fun σ H Q h => by
  obtain ⟨F, τ, vs, ds, s, d, e, k⟩ := h
  obtain ⟨a, ea, e3⟩ := bind_some e
  refine ⟨F, τ, vs, ds, s, a, ea, fun x f1 hx => ?_⟩
  cases a with
  | obj mm c' ns xs =>
    replace e3 : (if c' = c then lookD f ns xs else none) = some d := e3
    by_cases q : c' = c
    · rw [if_pos q] at e3
      subst q
      cases mm with
      | true =>
        obtain ⟨a, dx, fs, ws, g, rfl, h2, rfl, h4, h5, _⟩ := hx
        obtain ⟨v, g', l, r⟩ := look_repO h5 e3
        exact ⟨a, _, dx, _, v, rfl, h2, cl, na, l, k v _ r⟩
      | false =>
        obtain ⟨⟨a, dx, fs, ws, rfl, h2, rfl, h4, h5⟩, _⟩ := hx
        obtain ⟨v, l, r⟩ := look_rep h5 e3
        exact ⟨a, _, dx, _, v, rfl, s.same _ _ h2, cl, na, l, k v _ r.o⟩
    · rw [if_neg q] at e3; cases e3
  | _ => cases e3
/-! ### a method's call -/
def tMethX (C : Addr) (m : Str) (sp : Sp) (E : L2.St → XK) (ta : TE) (t : TA) : TE := fun σ H Q => ta σ H fun x H1 => ∃ a dx fs, x = .ref a ∧ H1 a = some (.ins C dx fs) ∧ fs.lookup m = none ∧ t σ H1 fun vs H2 => sp (x :: vs) H2 Q (E σ)
theorem pe_methX {CX : CXT} {k : Nat} {f C : Addr} {fd : FuncData} {ps : List Str} {sp : Sp} {E : L2.St → XK} {m : Str} {pos apos : Pos} {e o : Expr} {es : List Expr} {ta : TE} {t : TA} {pl : Sem Bool} (he : PE X o ta) (c : Cls X.K C) (hm : Meth X.K C m f) (F : FnOk X.prog X.w X.K X.mg X.base CX k f fd ps sp) (hr : Room k X.A) (hb : Binds X.K fd ps []) (hx : ∀ σ, PassesAt CX X σ (E σ)) (ha : PA X (e :: es) t)
    (hst : starEach (e :: es) X.env = (false, eval e X.env) :: starEach es X.env := by rfl) (hpl : (backTo pos (starEach es X.env)).any (·.1) = false := by rfl)
    (ht : eval (.Call (.Attribute o m apos) (e :: es) [] pos) X.env = (do
      let ov ← eval o X.env
      standAt apos.atName
      let (f, first) ← holding [ov] (getMethod ov m pl)
      callWith pos f first (backTo pos (starEach (e :: es) X.env)) (backToKw pos (keywordEach [] X.env))) := by rfl) :
    PE X (.Call (.Attribute o m apos) (e :: es) [] pos) (tMethX C m sp E ta t) := by
  refine ⟨fun pins s σ H Q I h => ?_⟩
  refine PySem.W.methodCall_KW (pl := pl) (thn (he.run pins s σ H _ I h) fun u s1 ⟨x, H1, I1, rx, a, dx, fs, ex, ea, l, q⟩ => ?_) ht
  subst ex
  obtain rfl : u = Value.ref a := rx
  refine getmeth_ok I1 ea c hm l ?_
  refine PySem.W.callWith_K (first := [.ref a]) (h₀ := X.base) I.ok.mod.kin hm.kp (thn (ha.run pos pins s1 σ H1 _ I1 q) fun us s2 ⟨vs, H2, I2, r, q2⟩ => ⟨I2.kIn, ?_⟩) hst hpl
  exact run_fnS (us := .ref a :: us) (vs := .ref a :: vs) F hr hb (hx σ) I2 (.cons rfl r) q2
/-- the classes that have it, each with its function -/
def eMeth (As : List (Str × (List D → CR))) (m : Str) (mo : ME) (ma : MA) : ME := fun τ => (mo τ).bind fun d τ1 => match d with
  | .obj false c ns xs => match As.lookup c with
    | some g => if ns.contains m = true then .bad else (ma τ1).bind fun ds τ2 => ofC (g (.obj false c ns xs :: freezeL ds)) τ2
    | none => .bad
  | _ => .bad
theorem lookup_zip_none {m : Str} : ∀ {ns : List Str} {vs : List V}, ns.contains m = false → (ns.zip vs).lookup m = none
  | [], _, _ => rfl
  | _ :: _, [], _ => rfl
  | n :: ns, v :: vs, h => by
    rw [List.contains_cons] at h
    obtain ⟨h1, h2⟩ := Bool.or_eq_false_iff.mp h
    rw [List.zip_cons_cons, List.lookup_cons, h1]
    exact lookup_zip_none h2
theorem e_meth {m : Str} {o e : Expr} {es : List Expr} {apos pos : Pos} {mo : ME} {ma : MA} {As : List (Str × (List D → CR))} {k : Nat} {pl : Sem Bool} (c : XOk X W) (hAs : MAll X.prog X.w X.K X.mg X.base B.ca k m As) (hr : Room k X.A) (ho : PE X o (rdE X.K B W mo)) (ha : PA X (e :: es) (rdA X.K B W ma)) (hne : As ≠ [] := by exact fun z => nomatch z)
    (hst : starEach (e :: es) X.env = (false, eval e X.env) :: starEach es X.env := by rfl) (hpl : (backTo pos (starEach es X.env)).any (·.1) = false := by rfl)
    (ht : eval (.Call (.Attribute o m apos) (e :: es) [] pos) X.env = (do
      let ov ← eval o X.env
      standAt apos.atName
      let (f, first) ← holding [ov] (getMethod ov m pl)
      callWith pos f first (backTo pos (starEach (e :: es) X.env)) (backToKw pos (keywordEach [] X.env))) := by rfl) :
    PE X (.Call (.Attribute o m apos) (e :: es) [] pos) (rdE X.K B W (eMeth As m mo ma)) := by
  refine ⟨fun pins s σ H Q I h => ?_⟩
  obtain ⟨F, τ, vs, ds, st, p⟩ := h
  unfold eMeth at p
  cases em : mo τ with
  | bad => rw [em] at p; exact p.elim
  | ex y τ1 =>
    cases As with
    | nil => exact absurd rfl hne
    | cons p0 r0 =>
      obtain ⟨⟨k', f, fd, ps, hk, hm, hb, G⟩, cl⟩ := hAs.1
      refine (pe_methX (pl := pl) ho cl hm G (hr.mono hk) hb (fun σ => passAt c.tk σ) ha hst hpl ht).run pins s σ H Q I ⟨F, τ, vs, ds, st, ?_⟩
      rw [em] at p ⊢
      exact p
  | ok d τ1 =>
    rw [em] at p
    cases d with
    | obj mm cc ns xs =>
      cases mm with
      | true => exact p.elim
      | false =>
        cases eg : As.lookup cc with
        | none => replace p : post _ _ (match As.lookup cc with | some g => if ns.contains m = true then R.bad else (ma τ1).bind fun ds τ2 => ofC (g (.obj false cc ns xs :: freezeL ds)) τ2 | none => R.bad) := p; rw [eg] at p; exact p.elim
        | some g =>
          replace p : post _ _ (match As.lookup cc with | some g => if ns.contains m = true then R.bad else (ma τ1).bind fun ds τ2 => ofC (g (.obj false cc ns xs :: freezeL ds)) τ2 | none => R.bad) := p
          rw [eg] at p
          by_cases nc : ns.contains m = true
          · replace p : post _ _ (if ns.contains m = true then R.bad else (ma τ1).bind fun ds τ2 => ofC (g (.obj false cc ns xs :: freezeL ds)) τ2) := p
            rw [if_pos nc] at p; exact p.elim
          · replace p : post _ _ (if ns.contains m = true then R.bad else (ma τ1).bind fun ds τ2 => ofC (g (.obj false cc ns xs :: freezeL ds)) τ2) := p
            rw [if_neg nc] at p
            obtain ⟨⟨k', f, fd, ps, hk, hm, hb, G⟩, cl⟩ := hAs.get eg
            refine (pe_methX (pl := pl) ho cl hm G (hr.mono hk) hb (fun σ => passAt c.tk σ) ha hst hpl ht).run pins s σ H Q I ⟨F, τ, vs, ds, st, ?_⟩
            rw [em]
            intro v F1 H1 s1
            obtain ⟨a, dx, fs, ws, rfl, h2, rfl, h4, h5⟩ := s1.topF rfl
            refine ⟨a, dx, _, rfl, s1.same _ _ h2, lookup_zip_none (by simpa using nc), F1, τ1, _, _, s1, post_imp (post_bind p) (fun as τ2 q us F2 H2 hl s2 => ?_) fun y τ2 q F2 H2 s2 => q F2 H2 s2.pop⟩
            obtain ⟨F3, sm, rl, s3⟩ := s2.freeze hl
            have rep := s3.topF rfl
            have s4 := s3.pop
            refine ⟨F3, .obj false cc ns xs :: freezeL as, s3.same, ⟨.ref a, us, rfl, rep, rl⟩, ?_⟩
            cases eq : g (.obj false cc ns xs :: freezeL as) with
            | ok d => rw [eq] at q; exact fun v F' H' f k1 k2 k3 k4 k5 k6 k7 => q v F' H' (s4.called k1 k2 k3 k4 k5 k6 k7)
            | ex y => rw [eq] at q; exact fun H' k1 => q F3 H' (s4.grown k1)
            | bad => rw [eq] at q; exact q
    | _ => exact p.elim
/-! ### isinstance of an own class -/
structure IsO (K : PySem.W.Frag) (C A : Addr) (b : Bool) : Prop where
  cl : Cls K C
  ha : PySem.W.findIn K (.ref C) "__class__" = some (some (.builtin "object.__class__"))
  hn : PySem.W.specialIn K (.builtin "object.__class__") "__get__" = some (some (.builtin "getset_descriptor.__get__"))
  htk : PySem.W.takesIn K (.builtin "object.__class__") = some true
  hm : PySem.W.mroIn K C (.type "object") = some true
  ko : PySem.W.kitOne K (.ref C) (.ref A) = some b
def zIsO (tbl : Str → Option Bool) (m : MZ) : MZ := fun τ => (m τ).bind fun d => match d with
  | .obj _ c _ _ => (tbl c).map D.bl
  | _ => none
theorem z_isO {A : Str} {aA : Addr} {e : Expr} {p p2 pos : Pos} {m : MZ} {tbl : Str → Option Bool} (hA : X.mg A = some (.ref aA)) (hI : ∀ c b, tbl c = some b → IsO X.K (B.ca c) aA b) (hg : Gl X "isinstance") (hgA : Gl X A) (hm : X.mg "isinstance" = none) (h : PE X e (rdZ X.K B m)) (hdb : (A == ("__debug__" : Str)) = false := by decide)
    (hs1 : starEach [e, .Name A p2] X.env = (false, eval e X.env) :: starEach [.Name A p2] X.env := by rfl) (hs2 : starEach [.Name A p2] X.env = (false, eval (.Name A p2) X.env) :: starEach [] X.env := by rfl) (hpl : (backTo pos (starEach [.Name A p2] X.env)).any (·.1) = false := by rfl) :
    PE X (.Call (.Name "isinstance" p) [e, .Name A p2] [] pos) (rdZ X.K B (zIsO tbl m)) := by
  have hAe : PE X (.Name A p2) (tC (.ref aA)) := pe_glob hgA hA rfl hdb
  refine PE.imp (pe_callB call_isi hg hm (by decide +kernel) (pa_cons h (pa_cons hAe pa_nil hs2) hs1) (by decide) (by decide) hs1 hpl) fun σ H Q h => ?_
  obtain ⟨F, τ, vs, ds, s, d, e, k⟩ := h
  obtain ⟨a, ea, e⟩ := bind_some e
  refine ⟨F, τ, vs, ds, s, a, ea, fun x f1 hx => ?_⟩
  cases a with
  | obj mm c' ns xs =>
    cases et : tbl c' with
    | none => simp only [et] at e; cases e
    | some b =>
      simp only [et] at e
      cases e
      have J := hI c' b et
      have hx' : ∃ a dx fs, x = .ref a ∧ H a = some (.ins (B.ca c') dx fs) := by
        cases mm with
        | true => obtain ⟨a, dx, fs, ws, g, h1, h2, _⟩ := hx; exact ⟨a, dx, fs, h1, h2⟩
        | false => obtain ⟨⟨a, dx, fs, ws, h1, h2, _⟩, _⟩ := hx; exact ⟨a, dx, fs, h1, s.same _ _ h2⟩
      obtain ⟨a, dx, fs, rfl, h2⟩ := hx'
      exact ⟨.ref a, .ref aA, .ref (B.ca c'), .ref aA, b, rfl, .own aA, .base (.ins h2 J.cl J.ha J.hn J.htk J.hm), J.ko, k (.bl b) _ (Rep.o (d := .bl b) rfl)⟩
  | _ => cases e
/-! ### lists joined -/
theorem RepL.append {K : PySem.W.Frag} {ca : Str → Addr} {F : Hp} : ∀ {xs ys : List D} {us vs : List V}, RepL K ca F xs us → RepL K ca F ys vs → RepL K ca F (xs ++ ys) (us ++ vs)
  | [], _, _, _, h, k => by cases (show _ = [] from h); exact k
  | x :: xs, ys, _, vs, ⟨v, r, e, h1, h2⟩, k => by subst e; exact ⟨v, r ++ vs, rfl, h1, h2.append k⟩
def catD : D → D → Option D
  | .lst false xs, .lst false ys => if xs.length + ys.length ≤ 1000000 then some (.lst true (xs ++ ys)) else none
  | _, _ => none
def slE' (o : Option D) (τ : Env) : R D := match o with
  | some x => .ok x τ | none => .bad
def eCat (a b : ME) : ME := fun τ => (a τ).bind fun x τ1 => (b τ1).bind fun y τ2 => slE' (catD (freeze x) (freeze y)) τ2
theorem e_cat {a b : Expr} {pos : Pos} {m n : ME} (ha : PE X a (rdE X.K B W m)) (hb : PE X b (rdE X.K B W n)) : PE X (.BinOp a .Add b pos) (rdE X.K B W (eCat m n)) := PE.imp (pe_op op_cat ha hb) fun σ H Q h => by
  obtain ⟨F, τ, vs, ds, s, p⟩ := h
  refine ⟨F, τ, vs, ds, s, post_imp (post_bind p) (fun x τ1 q v F1 H1 s1 => ⟨F1, τ1, _, _, s1, post_imp (post_bind q) (fun y τ2 q w F2 H2 s2 => ?_) fun c τ2 q F2 H2 s2 => q F2 H2 s2.pop⟩) fun _ _ q => q⟩
  obtain ⟨F3, sm, ⟨w', r', e1, r1, ⟨v', r'', e2, r2, _⟩⟩, s3⟩ := StT.freeze (us := [w, v]) (es := [y, x]) s2 rfl
  cases e1; cases e2
  cases ex : freeze x with
  | lst m1 xs =>
    cases ey : freeze y with
    | lst m2 ys =>
      rw [ex, ey] at q
      rw [ex] at r2; rw [ey] at r1
      cases m1 with
      | true => exact q.elim
      | false =>
        cases m2 with
        | true => exact q.elim
        | false =>
          replace q : post _ _ (slE' (if xs.length + ys.length ≤ 1000000 then some (.lst true (xs ++ ys)) else none) τ2) := q
          by_cases z : xs.length + ys.length ≤ 1000000
          · rw [if_pos z] at q
            obtain ⟨a1, us1, rfl, k1, k2⟩ := r2
            obtain ⟨a2, us2, rfl, l1, l2⟩ := r1
            refine ⟨a1, a2, us1, us2, rfl, rfl, s3.same _ _ k1, s3.same _ _ l1, ?_, fun p hp => ?_⟩
            · have h1 := k2.length
              have h2 := l2.length
              exact le_sizeLine (by omega)
            · have k3 := RepL.append k2 l2
              exact q _ _ _ ((s3.pushL k3).newLst k3.length hp)
          · rw [if_neg z] at q; exact q.elim
    | _ => rw [ex, ey] at q; cases xs <;> first | exact q.elim | (revert q; cases m1 <;> exact fun q => q.elim)
  | _ => rw [ex] at q; exact q.elim
end
end Bn

/-! A list lent to a call; an item set anew; `in` over lists of data. -/
namespace Bn
open PySem PySem.Spec PyProof.Rows L2
mutual
/-- holds nothing that could be a list or an object handed in -/
def clean : D → Bool
  | .non => true | .bl _ => true | .int _ => true | .str _ => true | .ty _ => true
  | .tup xs => cleanL xs
  | .lst m xs => m && cleanL xs
  | .cst _ => false
  | .obj m _ _ xs => m && cleanL xs
  | .val _ => false
  | .tpo xs => cleanL xs
  | .dct m _ xs => m && cleanL xs
def cleanL : List D → Bool
  | [] => true
  | x :: xs => clean x && cleanL xs
end
section
variable {K : PySem.W.Frag} {ca : Str → Addr} {F F' H H' : Hp}
mutual
theorem Rep.back (k : ∀ a xs, SqT K F a xs → SqT K F' a xs) : ∀ (d : D) (v : V), clean d = true → Rep K ca F d v → Rep K ca F' d v
  | .non, _, _, h => h
  | .bl _, _, _, h => h
  | .int _, _, _, h => h
  | .str _, _, _, h => h
  | .ty _, _, _, h => h
  | .tup ds, v, c, h => by
    obtain ⟨a, vs, h1, h2, h3⟩ := h
    exact ⟨a, vs, h1, k a vs h2, RepL.back k ds vs c h3⟩
  | .lst true _, _, _, h => h.elim
  | .lst false xs, _, c, _ => by cases (show (false && cleanL xs) = true from c)
  | .cst _, _, c, _ => by cases (show false = true from c)
  | .obj true _ _ _, _, _, h => h.elim
  | .obj false _ _ xs, _, c, _ => by cases (show (false && cleanL xs) = true from c)
  | .val _, _, c, _ => by cases (show false = true from c)
  | .tpo _, _, _, h => h.elim
  | .dct true _ _, _, _, h => h.elim
  | .dct false _ xs, _, c, _ => by cases (show (false && cleanL xs) = true from c)
theorem RepL.back (k : ∀ a xs, SqT K F a xs → SqT K F' a xs) : ∀ (ds : List D) (vs : List V), cleanL ds = true → RepL K ca F ds vs → RepL K ca F' ds vs
  | [], _, _, h => h
  | d :: ds, _, c, ⟨v, r, e, h1, h2⟩ => by
    have c' : (clean d && cleanL ds) = true := c
    rw [Bool.and_eq_true] at c'
    exact ⟨v, r, e, Rep.back k d v c'.1 h1, RepL.back k ds r c'.2 h2⟩
end
mutual
theorem RepO.back (k : ∀ a xs, SqT K F a xs → SqT K F' a xs) : ∀ (d : D) (v : V) (f : Ct), clean d = true → RepO K ca F H d v f → RepO K ca F' H d v f
  | .lst true ds, v, f, c, h => by
    obtain ⟨a, vs, g, h1, h2, h3, h4⟩ := h
    exact ⟨a, vs, g, h1, h2, RepOs.back k ds vs g (by have c' : (true && cleanL ds) = true := c; simpa using c') h3, h4⟩
  | .obj true _ ns ds, v, f, c, h => by
    obtain ⟨a, dx, fs, vs, g, h1, h2, h2', h2'', h3, h4⟩ := h
    exact ⟨a, dx, fs, vs, g, h1, h2, h2', h2'', RepOs.back k ds vs g (by have c' : (true && cleanL ds) = true := c; simpa using c') h3, h4⟩
  | .lst false _, v, f, c, h => ⟨Rep.back k _ v c h.1, h.2⟩
  | .obj false _ _ _, v, f, c, h => ⟨Rep.back k _ v c h.1, h.2⟩
  | .non, v, f, c, h => ⟨Rep.back k _ v c h.1, h.2⟩
  | .bl _, v, f, c, h => ⟨Rep.back k _ v c h.1, h.2⟩
  | .int _, v, f, c, h => ⟨Rep.back k _ v c h.1, h.2⟩
  | .str _, v, f, c, h => ⟨Rep.back k _ v c h.1, h.2⟩
  | .ty _, v, f, c, h => ⟨Rep.back k _ v c h.1, h.2⟩
  | .val _, v, f, c, h => ⟨Rep.back k _ v c h.1, h.2⟩
  | .tpo ds, v, f, c, h => by
    obtain ⟨a, vs, h1, h2, h3⟩ := h
    exact ⟨a, vs, h1, k a vs h2, RepOs.back k ds vs f c h3⟩
  | .dct true ks ds, v, f, c, h => by
    obtain ⟨a, vs, g, h1, h2, h2', h3, h4⟩ := h
    exact ⟨a, vs, g, h1, h2, h2', RepOs.back k ds vs g (by have c' : (true && cleanL ds) = true := c; simpa using c') h3, h4⟩
  | .dct false _ _, v, f, c, h => ⟨Rep.back k _ v c h.1, h.2⟩
  | .tup _, v, f, c, h => ⟨Rep.back k _ v c h.1, h.2⟩
  | .cst _, v, f, c, h => ⟨Rep.back k _ v c h.1, h.2⟩
theorem RepOs.back (k : ∀ a xs, SqT K F a xs → SqT K F' a xs) : ∀ (ds : List D) (vs : List V) (f : Ct), cleanL ds = true → RepOs K ca F H ds vs f → RepOs K ca F' H ds vs f
  | [], _, _, _, h => h
  | d :: ds, _, f, c, ⟨v, r, f1, f2, e, h1, h2, h3⟩ => by
    have c' : (clean d && cleanL ds) = true := c
    rw [Bool.and_eq_true] at c'
    exact ⟨v, r, f1, f2, e, RepO.back k d v f1 c'.1 h1, RepOs.back k ds r f2 c'.2 h2, h3⟩
end
/-- what is owned is a list or an object -/
def LsIn (H : Hp) (a : Addr) : Prop := (∃ xs, H a = some (.lst xs)) ∨ (∃ c dx fs, H a = some (.ins c dx fs)) ∨ ∃ kvs, H a = some (.dK kvs)
mutual
theorem RepO.kind : ∀ (d : D) (v : V) (f : Ct), RepO K ca F H d v f → ∀ a, 0 < f a → LsIn H a
  | .lst true ds, v, f, h, b, hb => by
    obtain ⟨a, vs, g, h1, h2, h3, h4⟩ := h
    by_cases e : b = a
    · subst e; exact .inl ⟨_, h2⟩
    · exact RepOs.kind ds vs g h3 b (by rw [h4, if_neg e] at hb; omega)
  | .obj true _ ns ds, v, f, h, b, hb => by
    obtain ⟨a, dx, fs, vs, g, h1, h2, h2', h2'', h3, h4⟩ := h
    by_cases e : b = a
    · subst e; exact .inr (.inl ⟨_, _, _, h2⟩)
    · exact RepOs.kind ds vs g h3 b (by rw [h4, if_neg e] at hb; omega)
  | .lst false _, v, f, h, b, hb => by rw [h.2] at hb; omega
  | .obj false _ _ _, v, f, h, b, hb => by rw [h.2] at hb; omega
  | .non, v, f, h, b, hb => by rw [h.2] at hb; omega
  | .bl _, v, f, h, b, hb => by rw [h.2] at hb; omega
  | .int _, v, f, h, b, hb => by rw [h.2] at hb; omega
  | .str _, v, f, h, b, hb => by rw [h.2] at hb; omega
  | .ty _, v, f, h, b, hb => by rw [h.2] at hb; omega
  | .val _, v, f, h, b, hb => by rw [h.2] at hb; omega
  | .tpo ds, v, f, h, b, hb => by
    obtain ⟨a, vs, h1, h2, h3⟩ := h
    exact RepOs.kind ds vs f h3 b hb
  | .dct true _ ds, v, f, h, b, hb => by
    obtain ⟨a, vs, g, h1, h2, h2', h3, h4⟩ := h
    by_cases e : b = a
    · subst e; exact .inr (.inr ⟨_, h2⟩)
    · exact RepOs.kind ds vs g h3 b (by rw [h4, if_neg e] at hb; omega)
  | .dct false _ _, v, f, h, b, hb => by rw [h.2] at hb; omega
  | .tup _, v, f, h, b, hb => by rw [h.2] at hb; omega
  | .cst _, v, f, h, b, hb => by rw [h.2] at hb; omega
theorem RepOs.kind : ∀ (ds : List D) (vs : List V) (f : Ct), RepOs K ca F H ds vs f → ∀ a, 0 < f a → LsIn H a
  | [], _, _, h, b, hb => by rw [h.2] at hb; omega
  | d :: ds, _, f, ⟨v, r, f1, f2, e, h1, h2, h3⟩, b, hb => by
    rw [h3] at hb
    by_cases q : 0 < f1 b
    · exact RepO.kind d v f1 h1 b q
    · exact RepOs.kind ds r f2 h2 b (by omega)
end
/-- the unchanging part while a call runs that is lent what f counts -/
def lend (F H : Hp) (f : Ct) : Hp := fun b => match F b with
  | some o => some o
  | none => if 0 < f b then H b else none
theorem lend_same (F H : Hp) (f : Ct) : Same F (lend F H f) := fun b x e => by
  unfold lend; rw [e]
theorem lend_sub (sm : Same F H) (f : Ct) : Same (lend F H f) H := fun b x e => by
  unfold lend at e
  cases q : F b with
  | some o => rw [q] at e; cases e; exact sm _ _ q
  | none =>
    rw [q] at e
    replace e : (if 0 < f b then H b else none) = some x := e
    by_cases z : 0 < f b
    · rw [if_pos z] at e; exact e
    · rw [if_neg z] at e; cases e
theorem lend_at (sm : Same F H) {f : Ct} {b : Addr} (h : 0 < f b) : lend F H f b = H b := by
  unfold lend
  cases q : F b with
  | some o => exact (sm _ _ q).symm
  | none => exact if_pos h
end
section
variable {K : PySem.W.Frag} {B : Bx} {F H : Hp} {σ : L2.St} {τ : Env} {vs us : List V} {ds es : List D} {v : V} {d : D} {f : Ct}
theorem lend_rep (s : StT K B F H σ τ vs ds) (r : RepOs K B.ca F H es us f) : RepL K B.ca (lend F H f) (freezeL es) us :=
  RepOs.fz (lend_same F H f) _ _ _ (fun _ h => lend_at s.same h) r
/-- behind a call that was lent something: all is as it was -/
theorem StT.lent {F' H' : Hp} {g : Ct} (s : StT K B F H σ τ vs ds) (r : RepOs K B.ca F H es us f) (h1 : Same (lend F H f) F') (h2 : Same F' H') (h3 : Same H H') (hv : RepO K B.ca F' H' d v g) (h4 : ∀ a, g a ≤ 1) (h5 : ∀ a, 0 < g a → F' a = none ∧ H a = none)
    (h6 : ∀ a, F' a ≠ none → lend F H f a ≠ none ∨ H a = none) (hc : clean d = true) : ∃ F2, StT K B F2 H' σ τ (v :: vs) (d :: ds) := by
  classical
  have sm := lend_same F H f
  refine ⟨fun b => if F b = none ∧ 0 < f b then none else F' b, s.called (g := g) (fun b x e => ?_) (fun b x e => ?_) h3 (hv.back (fun a xs q => ?_) _ _ _ hc) h4 (fun a q => ⟨?_, (h5 a q).2⟩) fun a q => ?_⟩
  · show (if F b = none ∧ 0 < f b then none else F' b) = some x
    rw [if_neg (fun z => by rw [z.1] at e; cases e)]
    exact h1 _ _ (sm _ _ e)
  · replace e : (if F b = none ∧ 0 < f b then none else F' b) = some x := e
    split at e
    · cases e
    · exact h2 _ _ e
  · rcases q with q | q
    · refine .inl ?_
      have key : ∀ o, F' a = some o → (∀ ys, o ≠ .lst ys) → (∀ c dx fs, o ≠ .ins c dx fs) → (∀ kvs, o ≠ .dK kvs) → (fun b => if F b = none ∧ 0 < f b then none else F' b) a = some o := fun o ho n1 n2 n3 => by
        show (if F a = none ∧ 0 < f a then none else F' a) = some o
        rw [if_neg (fun z => ?_)]
        · exact ho
        · have e := h1 a
          rw [lend_at s.same z.2] at e
          rcases RepOs.kind _ _ _ r a z.2 with ⟨ys, hk⟩ | ⟨c, dx, fs, hk⟩ | ⟨kvs, hk⟩
          · have := e _ hk
            rw [ho] at this
            cases this
            exact n1 _ rfl
          · have := e _ hk
            rw [ho] at this
            cases this
            exact n2 _ _ _ rfl
          · have := e _ hk
            rw [ho] at this
            cases this
            exact n3 _ rfl
      rcases q with q | ⟨o, q⟩
      · exact .inl (key _ q (fun _ z => by cases z) (fun _ _ _ z => by cases z) (fun _ z => by cases z))
      · exact .inr ⟨o, key _ q (fun _ z => by cases z) (fun _ _ _ z => by cases z) (fun _ z => by cases z)⟩
    · exact .inr q
  · show (if F a = none ∧ 0 < f a then none else F' a) = none
    split
    · rfl
    · exact (h5 a q).1
  · replace q : (if F a = none ∧ 0 < f a then none else F' a) ≠ none := q
    by_cases z : F a = none ∧ 0 < f a
    · rw [if_pos z] at q; exact absurd rfl q
    · rw [if_neg z] at q
      rcases h6 a q with k | k
      · refine .inl fun e => ?_
        unfold lend at k
        rw [e] at k
        replace k : (if 0 < f a then H a else none) ≠ none := k
        rw [if_neg (fun y => z ⟨e, y⟩)] at k
        exact k rfl
      · exact .inr k
end
def lendR (r : CR) (τ : Env) : R D := match r with
  | .ok d => if clean d = true then .ok d τ else .bad
  | .ex c => .ex c τ
  | .bad => .bad
def eCallZ (g : List D → CR) (m : Env → Option (List D)) : ME := fun τ => match m τ with
  | some ds => lendR (g (freezeL ds)) τ
  | none => .bad
section
variable {X : Cx} {B : Bx} {W : WX}
theorem lend_sp {g : List D → CR} {F H : Hp} {σ : L2.St} {τ : Env} {vs us : List V} {ds es : List D} {f : Ct} {Q : VK} (s : StT X.K B F H σ τ vs ds) (r : RepOs X.K B.ca F H es us f) {pre : List D} {prv : List V} (hp : RepL X.K B.ca F pre prv)
    (p : post (fun d τ' => ∀ v F' H', StT X.K B F' H' σ τ' (v :: vs) (d :: ds) → Q v H') (exW X.K B W σ vs ds) (lendR (g (pre ++ freezeL es)) τ)) : spP X.K B.ca g (prv ++ us) H Q (W · · σ ·) := by
  refine ⟨lend F H f, pre ++ freezeL es, lend_sub s.same f, (RepL.mono (lend_same F H f) _ _ hp).append (lend_rep s r), ?_⟩
  unfold lendR at p
  cases eg : g (pre ++ freezeL es) with
  | ok d =>
    rw [eg] at p
    replace p : post _ _ (if clean d = true then R.ok d τ else R.bad) := p
    by_cases z : clean d = true
    · rw [if_pos z] at p
      intro v F' H' f' k1 k2 k3 k4 k5 k6 k7
      obtain ⟨F2, s2⟩ := s.lent r k1 k2 k3 k4 k5 k6 k7 z
      exact p v F2 H' s2
    · rw [if_neg z] at p; exact p.elim
  | ex c => rw [eg] at p; exact fun H' k1 => p F H' (s.grown k1)
  | bad => rw [eg] at p; exact p
theorem e_callZ {x : Str} {p pos : Pos} {e : Expr} {es : List Expr} {m : Env → Option (List D)} {g : List D → CR} {k j : Nat} (c : XOk X W) (G : Fo X.prog X.w X.K X.mg X.base B.ca k x g) (hr : Room j X.A) (hg : Gl X x) (ha : PA X (e :: es) (rdZA X.K B m)) (hk : k ≤ j := by decide) (hdb : (x == ("__debug__" : Str)) = false := by decide)
    (he : starEach (e :: es) X.env = (false, eval e X.env) :: starEach es X.env := by rfl) (hpl : (backTo pos (starEach es X.env)).any (·.1) = false := by rfl) : PE X (.Call (.Name x p) (e :: es) [] pos) (rdE X.K B W (eCallZ g m)) := by
  obtain ⟨f, fd, ps, h1, h2, h3, h4⟩ := G.ex
  refine PE.imp (pe_callS h4 (hr.mono hk) hg h1 h2 h3 (fun σ => passAt c.tk σ) ha hdb he hpl) fun σ H Q h => ?_
  obtain ⟨F, τ, vs, ds, s, p⟩ := h
  unfold eCallZ at p
  cases em : m τ with
  | none => rw [em] at p; exact p.elim
  | some as =>
    rw [em] at p
    exact ⟨F, τ, vs, ds, s, as, em, fun us f r => lend_sp s r (pre := []) (prv := []) rfl p⟩
def eMethZ (As : List (Str × (List D → CR))) (m : Str) (mo : ME) (ma : Env → Option (List D)) : ME := fun τ => (mo τ).bind fun d τ1 => match d with
  | .obj false c ns xs => match As.lookup c with
    | some g => if ns.contains m = true then .bad else (match ma τ1 with
      | some ds => lendR (g (.obj false c ns xs :: freezeL ds)) τ1
      | none => .bad)
    | none => .bad
  | _ => .bad
theorem e_methZ {m : Str} {o e : Expr} {es : List Expr} {apos pos : Pos} {mo : ME} {ma : Env → Option (List D)} {As : List (Str × (List D → CR))} {k : Nat} {pl : Sem Bool} (c : XOk X W) (hAs : MAll X.prog X.w X.K X.mg X.base B.ca k m As) (hr : Room k X.A) (ho : PE X o (rdE X.K B W mo)) (ha : PA X (e :: es) (rdZA X.K B ma)) (hne : As ≠ [] := by exact fun z => nomatch z)
    (hst : starEach (e :: es) X.env = (false, eval e X.env) :: starEach es X.env := by rfl) (hpl : (backTo pos (starEach es X.env)).any (·.1) = false := by rfl)
    (ht : eval (.Call (.Attribute o m apos) (e :: es) [] pos) X.env = (do
      let ov ← eval o X.env
      standAt apos.atName
      let (f, first) ← holding [ov] (getMethod ov m pl)
      callWith pos f first (backTo pos (starEach (e :: es) X.env)) (backToKw pos (keywordEach [] X.env))) := by rfl) :
    PE X (.Call (.Attribute o m apos) (e :: es) [] pos) (rdE X.K B W (eMethZ As m mo ma)) := by
  refine ⟨fun pins s σ H Q I h => ?_⟩
  obtain ⟨F, τ, vs, ds, st, p⟩ := h
  unfold eMethZ at p
  cases em : mo τ with
  | bad => rw [em] at p; exact p.elim
  | ex y τ1 =>
    cases As with
    | nil => exact absurd rfl hne
    | cons p0 r0 =>
      obtain ⟨⟨k', f, fd, ps, hk, hm, hb, G⟩, cl⟩ := hAs.1
      refine (pe_methX (pl := pl) ho cl hm G (hr.mono hk) hb (fun σ => passAt c.tk σ) ha hst hpl ht).run pins s σ H Q I ⟨F, τ, vs, ds, st, ?_⟩
      rw [em] at p ⊢
      exact p
  | ok d τ1 =>
    rw [em] at p
    cases d with
    | obj mm cc ns xs =>
      cases mm with
      | true => exact p.elim
      | false =>
        replace p : post _ _ (match As.lookup cc with | some g => if ns.contains m = true then R.bad else (match ma τ1 with | some ds => lendR (g (.obj false cc ns xs :: freezeL ds)) τ1 | none => R.bad) | none => R.bad) := p
        cases eg : As.lookup cc with
        | none => rw [eg] at p; exact p.elim
        | some g =>
          rw [eg] at p
          by_cases nc : ns.contains m = true
          · replace p : post _ _ (if ns.contains m = true then R.bad else (match ma τ1 with | some ds => lendR (g (.obj false cc ns xs :: freezeL ds)) τ1 | none => R.bad)) := p
            rw [if_pos nc] at p; exact p.elim
          · replace p : post _ _ (if ns.contains m = true then R.bad else (match ma τ1 with | some ds => lendR (g (.obj false cc ns xs :: freezeL ds)) τ1 | none => R.bad)) := p
            rw [if_neg nc] at p
            cases ea : ma τ1 with
            | none => rw [ea] at p; exact p.elim
            | some as =>
              rw [ea] at p
              obtain ⟨⟨k', f, fd, ps, hk, hm, hb, G⟩, cl⟩ := hAs.get eg
              refine (pe_methX (pl := pl) ho cl hm G (hr.mono hk) hb (fun σ => passAt c.tk σ) ha hst hpl ht).run pins s σ H Q I ⟨F, τ, vs, ds, st, ?_⟩
              rw [em]
              intro v F1 H1 s1
              have rep := s1.topF rfl
              obtain ⟨a, dx, fs, ws, rfl, h2, rfl, h4, h5⟩ := rep
              have rep := s1.topF rfl
              refine ⟨a, dx, _, rfl, s1.same _ _ h2, lookup_zip_none (by simpa using nc), F1, τ1, _, _, s1, as, ea, fun us f r => ?_⟩
              exact lend_sp s1.pop r (pre := [.obj false cc ns xs]) (prv := [.ref a]) ⟨.ref a, [], rfl, rep, rfl⟩ p
    | _ => exact p.elim
/-! ### an item set anew -/
theorem RepOs.set {K : PySem.W.Frag} {ca : Str → Addr} {F H : Hp} {d : D} {v : V} {g2 : Ct} (hv : RepO K ca F H d v g2) : ∀ {ds : List D} {vs : List V} {f : Ct} (j : Nat), RepOs K ca F H ds vs f → ∃ g, RepOs K ca F H (ds.set j d) (vs.set j v) g ∧ ∀ b, g b ≤ f b + g2 b
  | [], vs, f, j, h => by
    cases (show vs = [] from h.1)
    exact ⟨f, h, fun b => by omega⟩
  | x :: ds, _, f, 0, ⟨w, r, f1, f2, e, h1, h2, h3⟩ => by
    subst e
    exact ⟨fun b => g2 b + f2 b, ⟨v, r, g2, f2, rfl, hv, h2, fun _ => rfl⟩, fun b => by show g2 b + f2 b ≤ f b + g2 b; rw [h3]; omega⟩
  | x :: ds, _, f, j + 1, ⟨w, r, f1, f2, e, h1, h2, h3⟩ => by
    subst e
    obtain ⟨g, k1, k2⟩ := RepOs.set hv j h2
    exact ⟨fun b => f1 b + g b, ⟨w, r.set j v, f1, g, rfl, h1, k1, fun _ => rfl⟩, fun b => by show f1 b + g b ≤ f b + g2 b; have := k2 b; rw [h3]; omega⟩
def setD (es : List D) (k : Int) (d : D) : Option (List D) := (ixN es.length k).map fun j => es.set j d
def sSetIx (i : Nat) (mi : MZ) (m : ME) : MS := fun τ => (m τ).s fun d τ1 => match τ1.getD i none with
  | some (.lst true es) => (match mi τ1 with
    | some (.int k) => (match setD es k d with
      | some es' => .nx (τ1.set i (some (.lst true es')))
      | none => .bad)
    | _ => .bad)
  | _ => .bad
theorem s_setIx {i : Nat} {o ix e : Expr} {pos pos' : Pos} {mi : MZ} {m : ME} (ho : PE X o (tVar i)) (hi : PE X ix (rdZ X.K B mi)) (he : PE X e (rdE X.K B W m)) (hs : swapsWithSole [.Subscript o ix pos'] e pos.line X.env = pure false := by rfl) (hw : swappedStores [.Subscript o ix pos'] e X.env = pure none := by rfl)
    (h1 : (assignEach [.Subscript o ix pos'] X.env).map (·.2) = [assign (.Subscript o ix pos') X.env] := by rfl)
    (ha : ∀ v, assign (.Subscript o ix pos') X.env v = (do
      let ov ← holding [v] (eval o X.env)
      let iv ← holding [v, ov] (eval ix X.env)
      standAt pos'
      holding [v, ov, iv] (setItem ov iv v)
      release [v, ov, iv] []) := by intro _; rfl) : PS X (.Assign [.Subscript o ix pos'] e pos) (rdS X.K B W (sSetIx i mi m)) :=
  PS.imp (ps_asg he (pg_sub ho hi set_list ha) hs hw h1) fun D σ H ⟨F, τ, vs, ds, s, p⟩ => by
    refine ⟨F, τ, vs, ds, s, post_imp (post_s (σ := σ) p) (fun d τ1 q y F1 H1 s1 => ?_) fun _ _ q => q⟩
    cases e1 : τ1.getD i none with
    | none => rw [e1] at q; exact q.elim
    | some dl =>
      rw [e1] at q
      cases dl with
      | lst mm es =>
        cases mm with
        | false => exact q.elim
        | true =>
          replace q : postS X.K B W vs ds D (match mi τ1 with | some (.int k) => (match setD es k d with | some es' => SR.nx (τ1.set i (some (.lst true es'))) | none => SR.bad) | _ => SR.bad) := q
          cases e2 : mi τ1 with
          | none => rw [e2] at q; exact q.elim
          | some dk =>
            rw [e2] at q
            cases dk with
            | int k =>
              replace q : postS X.K B W vs ds D (match setD es k d with | some es' => SR.nx (τ1.set i (some (.lst true es'))) | none => SR.bad) := q
              cases e3 : ixN es.length k with
              | none => unfold setD at q; rw [e3] at q; exact q.elim
              | some j =>
                unfold setD at q; rw [e3] at q
                replace q : postS X.K B W vs ds D (SR.nx (τ1.set i (some (.lst true (es.set j d))))) := q
                have e1' := getD_some e1
                obtain ⟨v, f, h1, a, us, g, rfl, h2, h3, _⟩ := s1.get e1'
                refine ⟨.ref a, h1, F1, τ1, _, _, s1, .int k, e2, fun w fw hw => ?_⟩
                obtain rfl : w = V.int k := hw.1
                refine ⟨a, us, k, j, rfl, rfl, h2, by rw [h3.length]; exact e3, ?_⟩
                obtain ⟨v, k1, s2⟩ := s1.take e1'
                rw [h1] at k1
                cases k1
                have s3 := s2.change (us := [y]) (ds := [d]) (ys := us.set j y) (es2 := es.set j d) rfl h2 fun g1 g2 r1 r2 => by
                  obtain ⟨_, r, f1, f2, ey, q1, q2, q3⟩ := r2
                  cases ey
                  obtain ⟨g, k1, k2⟩ := RepOs.set q1 j r1
                  exact ⟨g, k1, fun b => by have := k2 b; have := q3 b; have := q2.2 b; omega⟩
                have s4 := s3.putBack (i := i) (by rw [List.length_set]; exact (List.getElem?_eq_some_iff.mp e1').1) h1
                rw [List.set_set] at s4
                exact q σ F1 _ s4
            | _ => exact q.elim
      | _ => exact q.elim
/-! ### in, over lists of data -/
def gInD (neg : Bool) (a b : D) : Option D := match b with
  | .lst m xs => if okP a = true ∧ okP (.lst m xs) = true then some (.bl (if neg = true then !(toPs xs).any fun z => PyData.eqv z (toP a) else (toPs xs).any fun z => PyData.eqv z (toP a))) else none
  | _ => none
theorem sInD {K : PySem.W.Frag} : OpS K (rInD K) (gInD false) := by
  intro ca F H x y a b d f1 f2 Q sm hx hy e q
  cases b with
  | lst m xs =>
    replace e : (if okP a = true ∧ okP (.lst m xs) = true then some (D.bl ((toPs xs).any fun z => PyData.eqv z (toP a))) else none) = some d := e
    by_cases c : okP a = true ∧ okP (.lst m xs) = true
    · rw [if_pos c] at e
      cases e
      have c1 := c.1
      have c2 := c.2
      unfold okP at c1 c2
      rw [Bool.and_eq_true] at c1 c2
      exact ⟨_, _, RepO.dp sm a x f1 c1.1 hx, RepO.dp sm _ y f2 c2.1 hy, c1.2, c2.2, q (.bl _) _ (Rep.o (d := .bl _) rfl)⟩
    · rw [if_neg c] at e; cases e
  | _ => cases e
theorem sNotInD {K : PySem.W.Frag} : OpS K (rNotInD K) (gInD true) := by
  intro ca F H x y a b d f1 f2 Q sm hx hy e q
  cases b with
  | lst m xs =>
    replace e : (if okP a = true ∧ okP (.lst m xs) = true then some (D.bl (!(toPs xs).any fun z => PyData.eqv z (toP a))) else none) = some d := e
    by_cases c : okP a = true ∧ okP (.lst m xs) = true
    · rw [if_pos c] at e
      cases e
      have c1 := c.1
      have c2 := c.2
      unfold okP at c1 c2
      rw [Bool.and_eq_true] at c1 c2
      exact ⟨_, _, RepO.dp sm a x f1 c1.1 hx, RepO.dp sm _ y f2 c2.1 hy, c1.2, c2.2, q (.bl _) _ (Rep.o (d := .bl _) rfl)⟩
    · rw [if_neg c] at e; cases e
  | _ => cases e
/-- a comprehension bound to a name that inner blocks read -/
theorem sw_false {elt : Expr} {gs : List Comprehension} {scope : Scope} {pos py : Pos} {y : Str} {l : Nat} {env : PySem.Env} (hy : env.scope.names.lookup y = some .cell) : swapsWith (.ListComp elt gs scope pos) (some (.Name y py)) l env = pure false := by
  have h : (env.kindOf y == some .local) = false := by
    show (env.scope.names.lookup y == some .local) = false
    rw [hy]; rfl
  show pure (env.blockKind == .function && env.kindOf y == some .local && py.line == pos.line && !(scope.names.any fun (n, k) => n == y && (k == .local || k == .cell))) = _
  rw [h, Bool.and_false]
  rfl
theorem units65 {k : Nat} {A : Around} (r : Room k A) : A.units + 65 < cLine := by have := r.un; omega
/-! ### a comprehension over a list that its name keeps -/
theorem RepOs.getI {K : PySem.W.Frag} {ca : Str → Addr} {F H : Hp} : ∀ {es : List D} {us : List V} {g : Ct} {i : Nat} {d : D}, RepOs K ca F H es us g → es[i]? = some d → ∃ v f, us[i]? = some v ∧ RepO K ca F H d v f
  | [], _, _, _, _, _, e => by simp at e
  | x :: es, _, _, 0, d, ⟨v, r, f1, f2, e, h1, _⟩, hd => by
    subst e
    simp at hd; subst hd
    exact ⟨v, f1, rfl, h1⟩
  | x :: es, _, _, i + 1, d, ⟨v, r, f1, f2, e, _, h2, _⟩, hd => by
    subst e
    obtain ⟨w, f, k1, k2⟩ := RepOs.getI (i := i) h2 (by simpa using hd)
    exact ⟨w, f, by simpa using k1, k2⟩
theorem itOk_own {K : PySem.W.Frag} {a : Addr} {es : List D} {vs : List V} {ds : List D} (hz : es.all isFz = true) : ItOk K B (Itl K a) es (.ref a :: vs) (.lst true es :: ds) := by
  have look : ∀ {F H σ τ}, StT K B F H σ τ (.ref a :: vs) (.lst true es :: ds) → ∃ us g, SqL K H a us ∧ RepOs K B.ca F H es us g := fun {F H σ τ} s => by
    obtain ⟨f, a', us, g, e, h1, h2, _⟩ := s.top
    cases e
    exact ⟨us, g, sqOf h1, h2⟩
  refine ⟨fun i F H σ τ s hi => ?_, fun F H σ τ s => ?_, fun i d F H σ τ x H' us' es' hl hd s y => ?_⟩
  · obtain ⟨us, g, h1, h2⟩ := look s
    exact ⟨us, us[i]'(by rw [h2.length]; exact hi), h1, by simp [h2.length, hi]⟩
  · obtain ⟨us, g, h1, h2⟩ := look s
    exact ⟨us, h1, by rw [h2.length]; exact Nat.le_refl _⟩
  · obtain ⟨rfl, y⟩ := y
    obtain ⟨us, g, h1, h2⟩ := look (s.pops hl)
    obtain ⟨v, f, e, r⟩ := h2.getI hd
    rw [y us h1] at e; cases e
    exact ⟨F, s.push ((repO_fz (List.all_eq_true.mp hz _ (List.mem_of_getElem? hd))).mp r).1⟩
def eLcB (own : List Nat) (i : Nat) (g : D → Env → Option Env) (t : MT) (m : ME) : ME := fun τ => match τ.getD i none with
  | some (.lst true es) => if es.all isFz = true then (match lcL own g t m es [] (wipeE (τ.set i none) own) with
    | .ok acc τ2 => .ok (.lst true acc) (τ2.set i (some (.lst true es)))
    | _ => .bad) else .bad
  | _ => .bad
theorem StT.len {K : PySem.W.Frag} {F H : Hp} {σ : L2.St} {τ : Env} {vs : List V} {ds : List D} (s : StT K B F H σ τ vs ds) : σ.length = τ.length := by
  obtain ⟨_, _, a, _⟩ := s
  exact a.length
theorem impLcB {own : List Nat} {i : Nat} {g : D → Env → Option Env} {sl : List Nat} {t : MT} {m : ME} (hsl : ∀ j ∈ sl, j ∈ own) (hio : ioFreeL B own) (σ : L2.St) (H : Hp) (Q : VK) (h : rdE X.K B W (eLcB own i g t m) σ H Q) : tLc (iList X.K (tVar i)) (rdG X.K B sl g) (rdT X.K B W0 t) (rdE X.K B W0 m) own σ H Q := by
  obtain ⟨F, τ, vs, ds, s, p⟩ := h
  unfold eLcB at p
  cases e0 : τ.getD i none with
  | none => rw [e0] at p; exact p.elim
  | some d0 =>
    rw [e0] at p
    cases d0 with
    | lst mm es =>
      cases mm with
      | false => exact p.elim
      | true =>
        replace p : post _ _ (if es.all isFz = true then (match lcL own g t m es [] (Bn.wipeE (τ.set i none) own) with | .ok acc τ2 => R.ok (D.lst true acc) (τ2.set i (some (.lst true es))) | _ => R.bad) else R.bad) := p
        by_cases z : es.all isFz = true
        · rw [if_pos z] at p
          obtain ⟨v, h1, s1⟩ := s.take (getD_some e0)
          obtain ⟨f, a, us, g', rfl, h2, _⟩ := s1.top
          refine ⟨.ref a, h1, a, rfl, ⟨us, sqOf h2⟩, ?_⟩
          cases e : lcL own g t m es [] (Bn.wipeE (τ.set i none) own) with
          | ok acc τ2 =>
            rw [e] at p
            refine lc_core' (itOk_own z) hsl hio s1 e fun v F2 H2 s2 => p v F2 H2 ?_
            have s3 := StT.swap (us := [v]) (es := [.lst true acc]) s2 rfl
            exact s3.putBack (by rw [← s3.len]; exact (List.getElem?_eq_some_iff.mp h1).1) h1
          | _ => rw [e] at p; exact p.elim
        · rw [if_neg z] at p; exact p.elim
    | _ => exact p.elim
theorem e_lcB {elt tg iter : Expr} {ifs : List Expr} {scope : Scope} {own : List (Str × Nat)} {pos : Pos} {i : Nat} {g : D → Env → Option Env} {sl : List Nat} {t : MT} {m : ME} (c : XOk X W) (hN : X.N.Nodup) (hi : PE X iter (tVar i)) (ok : BlkOk X.N X.env.scope scope own)
    (hg : ∀ (s : Shared) (H : Hp) (C : Addr) (cl : List (Str × Addr)) (fp : List Addr), PG (X.blk s H scope (compEnvC scope cl C X.env) fp) tg (rdG X.K B sl g)) (ht : ∀ (s : Shared) (H : Hp) (C : Addr) (cl : List (Str × Addr)) (fp : List Addr), PTs (X.blk s H scope (compEnvC scope cl C X.env) fp) ifs (rdT X.K B W0 t))
    (he : ∀ (s : Shared) (H : Hp) (C : Addr) (cl : List (Str × Addr)) (fp : List Addr), XOk (X.blk s H scope (compEnvC scope cl C X.env) fp) W0 → PE (X.blk s H scope (compEnvC scope cl C X.env) fp) elt (rdE X.K B W0 m))
    (hsl : ∀ j ∈ sl, j ∈ own.map (·.2) := by decide) (hio : ioFreeL B (own.map (·.2)) := by first | (intro p hp; cases hp; done) | (intro p hp; simp only [List.mem_cons, List.not_mem_nil, or_false] at hp; rcases hp with rfl | rfl <;> simp) | (intro p hp; simp only [List.mem_cons, List.not_mem_nil, or_false] at hp; rcases hp with rfl | rfl | rfl <;> simp) | (intro p hp; simp only [List.mem_cons, List.not_mem_nil, or_false] at hp; subst hp; simp)) (hs : ∀ x, foldedSetIterable iter X.env x = pure x := by intro _; rfl) :
    PE X (.ListComp elt [⟨tg, iter, ifs, 0⟩] scope pos) (rdE X.K B W (eLcB (own.map (·.2)) i g t m)) :=
  PE.imp (pe_lc c.calm hN (pi_list hi) ok hg ht (fun s H C cl fp => he s H C cl fp ⟨takes0, PassesOwn.never, c.calm⟩) hs) (impLcB hsl hio)
theorem s_setLcB {i : Nat} {y : Str} {py : Pos} {elt tg iter : Expr} {ifs : List Expr} {scope : Scope} {own : List (Str × Nat)} {pos spos : Pos} {l : Nat} {g : D → Env → Option Env} {sl : List Nat} {t : MT} {m : ME} (c : XOk X W) (hN : X.N.Nodup) (hy : X.N[i]? = some y) (hyl : X.env.scope.names.lookup y = some .local)
    (hsw : swapsWith (.ListComp elt [⟨tg, iter, ifs, 0⟩] scope pos) (some (.Name y py)) spos.line X.env = pure true) (hi : PE X iter (tVar l)) (ok : BlkOk X.N X.env.scope scope own)
    (hg : ∀ (s : Shared) (H : Hp) (C : Addr) (cl : List (Str × Addr)) (fp : List Addr), PG (X.blk s H scope (compEnvC scope cl C X.env) fp) tg (rdG X.K B sl g)) (ht : ∀ (s : Shared) (H : Hp) (C : Addr) (cl : List (Str × Addr)) (fp : List Addr), PTs (X.blk s H scope (compEnvC scope cl C X.env) fp) ifs (rdT X.K B W0 t))
    (he : ∀ (s : Shared) (H : Hp) (C : Addr) (cl : List (Str × Addr)) (fp : List Addr), XOk (X.blk s H scope (compEnvC scope cl C X.env) fp) W0 → PE (X.blk s H scope (compEnvC scope cl C X.env) fp) elt (rdE X.K B W0 m))
    (hsl : ∀ j ∈ sl, j ∈ own.map (·.2) := by decide) (hio : ioFreeL B (own.map (·.2)) := by first | (intro p hp; cases hp; done) | (intro p hp; simp only [List.mem_cons, List.not_mem_nil, or_false] at hp; rcases hp with rfl | rfl <;> simp) | (intro p hp; simp only [List.mem_cons, List.not_mem_nil, or_false] at hp; rcases hp with rfl | rfl | rfl <;> simp) | (intro p hp; simp only [List.mem_cons, List.not_mem_nil, or_false] at hp; subst hp; simp)) (hio2 : ioFree B i := by first | (intro p hp; cases hp; done) | (intro p hp; simp only [List.mem_cons, List.not_mem_nil, or_false] at hp; rcases hp with rfl | rfl <;> simp) | (intro p hp; simp only [List.mem_cons, List.not_mem_nil, or_false] at hp; rcases hp with rfl | rfl | rfl <;> simp) | (intro p hp; simp only [List.mem_cons, List.not_mem_nil, or_false] at hp; subst hp; simp)) (hs : ∀ x, foldedSetIterable iter X.env x = pure x := by intro _; rfl) :
    PS X (.Assign [.Name y py] (.ListComp elt [⟨tg, iter, ifs, 0⟩] scope pos) spos) (rdS X.K B W (sAsg (eLcB (own.map (·.2)) l g t m) (gN i))) :=
  PS.imp (ps_setLc c.calm hN hy hyl hsw (pi_list hi) ok hg ht (fun s H C cl fp => he s H C cl fp ⟨takes0, PassesOwn.never, c.calm⟩) hs) fun D σ H ⟨F, τ, vs, ds, s, p⟩ =>
    impLcB hsl hio σ H _ ⟨F, τ, vs, ds, s, post_imp (post_s (σ := σ) p) (fun d τ1 q v F1 H1 s1 => q _ F1 H1 (s1.put' hio2)) fun _ _ q => q⟩
end
end Bn

/-! Parameters that a def changes. -/
namespace Bn
open PySem PySem.Spec PyProof.Rows L2
inductive CR2 where
  | ok (d : D) (outs : List D)
  | bad
def ioL : Nat → List V → List (Nat × V)
  | _, [] => []
  | j, u :: us => (j, u) :: ioL (j + 1) us
/-- the first k parameters are handed to be changed -/
def spIO (K : PySem.W.Frag) (ca : Str → Addr) (k : Nat) (g : List D → CR2) : Sp := fun vs H Q _ => ∃ F f ios rest us ws, vs = us ++ ws ∧ ios.length = k ∧ RepOs K ca F H ios us f ∧ RepL K ca F rest ws ∧ Same F H ∧ (∀ a, f a ≤ 1) ∧ (∀ a, 0 < f a → F a = none) ∧
  match g (ios ++ rest) with
  | .ok d outs => ∀ v F' H' g', Same F F' → Same F' H' → (∀ a o, f a = 0 → H a = some o → H' a = some o) → RepOs K ca F' H' (d :: outs) (v :: us) g' → (∀ a, g' a ≤ 1) → (∀ a, 0 < g' a → F' a = none ∧ (H a = none ∨ 0 < f a)) → (∀ a, F' a ≠ none → F a ≠ none ∨ H a = none ∨ 0 < f a) → Q v H'
  | .bad => False
structure FoI (P : Program) (w : World) (K : PySem.W.Frag) (mg : Str → Option Value) (base : Heap) (ca : Str → Addr) (k : Nat) (x : Str) (m : Nat) (g : List D → CR2) : Prop where
  ex : ∃ f fd ps, mg x = some (.ref f) ∧ PySem.W.keepIn K (.ref f) = true ∧ Binds K fd ps [] ∧ FnOk P w K mg base (L2.CX P w) k f fd ps (spIO K ca m g)
def outsE : Nat → Env → Option (List D)
  | 0, _ => some []
  | _ + 1, [] => none
  | k + 1, o :: τ => match o with
    | none => none
    | some d => (outsE k τ).map (d :: ·)
def outR (k : Nat) (d : D) (τ : Env) : CR2 := match outsE k τ with
  | some os => .ok d os
  | none => .bad
def callFI (n N k : Nat) (b : MS) : List D → CR2 := fun ds => if ds.length = n then (match b (ds.map some ++ List.replicate (N - n) none) with
  | .nx τ => outR k .non τ
  | .rt d τ => outR k d τ
  | _ => .bad) else .bad
section
variable {K : PySem.W.Frag} {ca : Str → Addr} {F H : Hp}
theorem sl_startO {rest : List D} {ws : List V} {k : Nat} (hr : RepL K ca F rest ws) : ∀ {ios : List D} {us : List V} {f : Ct}, RepOs K ca F H ios us f → Sl K ca F H ((ios ++ rest).map some ++ List.replicate k none) ((us ++ ws).map some ++ List.replicate k none) f
  | [], us, f, h => by
    cases (show us = [] from h.1)
    have e : f = fun _ => 0 := funext h.2
    subst e
    exact sl_start hr
  | d :: ds, _, f, ⟨v, r, f1, f2, e, h1, h2, h3⟩ => by
    subst e
    exact ⟨v, _, f1, f2, rfl, h1, sl_startO hr h2, h3⟩
theorem sl_outs : ∀ {k : Nat} {τ : Env} {σ : L2.St} {f : Ct} {os : List D} {us : List V}, Sl K ca F H τ σ f → outsE k τ = some os → us.length = k → σ.take k = us.map some → ∃ g r : Ct, RepOs K ca F H os us g ∧ ∀ b, f b = g b + r b
  | 0, τ, σ, f, os, us, h, e, hl, _ => by
    cases (show some [] = some os from e)
    cases us with
    | nil => exact ⟨fun _ => 0, f, ⟨rfl, fun _ => rfl⟩, fun b => by show f b = 0 + f b; omega⟩
    | cons _ _ => cases hl
  | k + 1, [], σ, f, os, us, h, e, _, _ => by cases e
  | k + 1, none :: τ, σ, f, os, us, h, e, _, _ => by cases e
  | k + 1, some d :: τ, _, f, os, us, ⟨v, r, f1, f2, h1, h2, h3, h4⟩, e, hl, ht => by
    subst h1
    replace e : (outsE k τ).map (d :: ·) = some os := e
    cases e2 : outsE k τ with
    | none => rw [e2] at e; cases e
    | some os' =>
      rw [e2] at e
      cases e
      cases us with
      | nil => cases hl
      | cons u us =>
        rw [List.take_succ_cons, List.map_cons] at ht
        injection ht with ht1 ht2
        cases ht1
        obtain ⟨g, r', k1, k2⟩ := sl_outs h3 e2 (by simpa using hl) ht2
        exact ⟨fun b => f1 b + g b, r', ⟨v, us, f1, g, rfl, h2, k1, fun _ => rfl⟩, fun b => by show f b = f1 b + g b + r' b; rw [h4, k2]; omega⟩
theorem ioL_get : ∀ {us : List V} {j : Nat} {p : Nat × V}, p ∈ ioL j us → j ≤ p.1 ∧ us[p.1 - j]? = some p.2
  | [], _, _, h => by cases h
  | u :: us, j, p, h => by
    rcases List.mem_cons.mp h with rfl | h
    · exact ⟨Nat.le_refl _, by simp⟩
    · obtain ⟨h1, h2⟩ := ioL_get h
      refine ⟨by omega, ?_⟩
      rw [show p.1 - j = (p.1 - (j + 1)) + 1 by omega, List.getElem?_cons_succ]
      exact h2
theorem ioL_mem : ∀ {us : List V} {j i : Nat} {u : V}, us[i]? = some u → (j + i, u) ∈ ioL j us
  | [], _, _, _, h => by simp at h
  | x :: us, j, 0, u, h => by simp at h; subst h; exact List.mem_cons_self
  | x :: us, j, i + 1, u, h => by
    have := ioL_mem (j := j + 1) (i := i) (us := us) (u := u) (by simpa using h)
    rw [show j + 1 + i = j + (i + 1) by omega] at this
    exact List.mem_cons_of_mem _ this
end
section
variable {P : Program} {w : World} {K : PySem.W.Frag} {mg : Str → Option Value} {base : Heap} {ca : Str → Addr}
theorem fn_okIO {x qual : Str} {st : Stmt} {f : Addr} {fd : FuncData} {N ps : List Str} {k m : Nat} {b : MS} (F : Fun K x qual st f fd) (S : FnScope N ps (defScope st)) (hm : m ≤ ps.length)
    (hb : ∀ (cdv : Value) (A : Around) (outer : List PySem.Env) (s : Shared) (H : Hp) (E : XK) (F0 R : Hp) (us : List V), us.length = m → Room k (A.deeper (envOfC qual (defScope st) s.heap.objs.size f cdv)) →
      XOk (cxOf (L2.CX P w) P w K mg base N qual (defScope st) f cdv A outer s H E) (fun cls d _ H => E cls d H) →
      PSs (cxOf (L2.CX P w) P w K mg base N qual (defScope st) f cdv A outer s H E) (defBody st) (rdS K ⟨ca, F0, R, ioL 0 us⟩ (fun cls d _ H => E cls d H) b)) :
    FnOk P w K mg base (L2.CX P w) (k + 1) f fd ps (spIO K ca m (callFI ps.length N.length m b)) := by
  classical
  refine F.okX S (fun vs H Q E h => ?_) (fun cdv A outer s H vs Q E hr h => ?_)
  · obtain ⟨F0, g, ios, rest, us, ws, rfl, _, r1, r2, _, _, _, h⟩ := h
    by_cases e : (ios ++ rest).length = ps.length
    · rw [← e, List.length_append, List.length_append, r1.length, r2.length]
    · unfold callFI at h
      rw [if_neg e] at h
      exact h.elim
  · obtain ⟨F0, g, ios, rest, us, ws, rfl, him, r1, r2, sm, nd, dF, h⟩ := h
    have ul : us.length = m := by rw [r1.length]; exact him
    refine ⟨_, hb cdv A outer s H E F0 (fun a => if 0 < g a then none else H a) us ul hr ⟨takes_of rfl rfl rfl rfl, passes_of rfl, rfl⟩, ?_⟩
    have hl : (ios ++ rest).length = ps.length := by
      by_cases e : (ios ++ rest).length = ps.length
      · exact e
      · unfold callFI at h
        rw [if_neg e] at h
        exact h.elim
    unfold callFI at h
    rw [if_pos hl] at h
    have hstart : L2.start N (us ++ ws) = (us ++ ws).map some ++ List.replicate (N.length - ps.length) none := by
      unfold L2.start
      rw [← hl, List.length_append, List.length_append, r1.length, r2.length]
    have st0 : StT K ⟨ca, F0, (fun a => if 0 < g a then none else H a), ioL 0 us⟩ F0 H (L2.start N (us ++ ws)) ((ios ++ rest).map some ++ List.replicate (N.length - ps.length) none) [] [] := by
      refine ⟨g, fun _ => 0, ?_, ⟨rfl, fun _ => rfl⟩, ⟨fun a => nd a, fun a q => dF a q, fun a q => if_pos q, sm, fun a o e => ?_, Same.refl _, fun a q => .inl q⟩, fun p hp => ?_⟩
      · rw [hstart]; exact sl_startO r2 r1
      · replace e : (if 0 < g a then none else H a) = some o := e
        split at e
        · cases e
        · exact e
      · rw [hstart]
        obtain ⟨_, h2⟩ := ioL_get hp
        rw [Nat.sub_zero] at h2
        have hlt := (List.getElem?_eq_some_iff.mp h2).1
        rw [List.getElem?_append_left (by rw [List.length_map, List.length_append]; omega), List.getElem?_map, List.getElem?_append_left hlt, h2]
        rfl
    refine ⟨F0, _, [], [], st0, ?_⟩
    have done : ∀ (d : D) (τ : Env) (v : V) (σ' : L2.St) (F' H' : Hp), (match outR m d τ with | .ok d outs => ∀ v F' H' g', Same F0 F' → Same F' H' → (∀ a o, g a = 0 → H a = some o → H' a = some o) → RepOs K ca F' H' (d :: outs) (v :: us) g' → (∀ a, g' a ≤ 1) → (∀ a, 0 < g' a → F' a = none ∧ (H a = none ∨ 0 < g a)) → (∀ a, F' a ≠ none → F0 a ≠ none ∨ H a = none ∨ 0 < g a) → Q v H' | .bad => False) → StT K ⟨ca, F0, (fun a => if 0 < g a then none else H a), ioL 0 us⟩ F' H' σ' τ [v] [d] → Q v H' := by
      intro d τ v σ' F' H' h s'
      unfold outR at h
      cases eo : outsE m τ with
      | none => rw [eo] at h; exact h.elim
      | some os =>
        rw [eo] at h
        obtain ⟨f1, f2, hs, ⟨_, _, g1, g2, ee, hv, _, q⟩, w', io⟩ := s'
        cases ee
        have ht : σ'.take m = us.map some := by
          apply List.ext_getElem?
          intro i
          rw [List.getElem?_take, List.getElem?_map]
          split
          · rename_i hi
            have hu : us[i]? = some us[i] := List.getElem?_eq_getElem (by omega)
            have := io _ (ioL_mem (j := 0) hu)
            rw [Nat.zero_add] at this
            rw [this, hu]; rfl
          · rw [List.getElem?_eq_none (by omega)]; rfl
        obtain ⟨g3, r3, k1, k2⟩ := sl_outs hs eo ul ht
        have le : ∀ a, g1 a + g3 a ≤ f1 a + f2 a := fun a => by rw [q, k2]; omega
        refine h v F' H' (fun a => g1 a + g3 a) w'.s0 w'.sF (fun a o e1 e2 => w'.sR a o (by show (if 0 < g a then none else H a) = some o; rw [if_neg (by omega)]; exact e2)) ⟨v, us, g1, g3, rfl, hv, k1, fun _ => rfl⟩ (fun a => Nat.le_trans (le a) (w'.nd a)) (fun a z => ⟨w'.dF a (Nat.lt_of_lt_of_le z (le a)), ?_⟩) fun a z => ?_
        · have := w'.dR a (Nat.lt_of_lt_of_le z (le a))
          replace this : (if 0 < g a then none else H a) = none := this
          split at this
          · exact .inr (by assumption)
          · exact .inl this
        · rcases w'.fr a z with y | y
          · exact .inl y
          · replace y : (if 0 < g a then none else H a) = none := y
            split at y
            · exact .inr (.inr (by assumption))
            · exact .inr (.inl y)
    cases e : b ((ios ++ rest).map some ++ List.replicate (N.length - ps.length) none) with
    | nx τ =>
      rw [e] at h
      intro σ' F' H' s'
      exact done .non τ .non σ' F' H' h (s'.push rfl)
    | rt d τ =>
      rw [e] at h
      intro v σ' F' H' s'
      exact done d τ v σ' F' H' h s'
    | ex c τ => rw [e] at h; exact h.elim
    | bk τ => rw [e] at h; exact h.elim
    | ct τ => rw [e] at h; exact h.elim
    | bad => rw [e] at h; exact h.elim
theorem foI_of {x qual : Str} {st : Stmt} {f : Addr} {fd : FuncData} {ps : List Str} {k m : Nat} {g : List D → CR2} (F : Fun K x qual st f fd) (hm : mg x = some (.ref f)) (hb : Binds K fd ps []) (h : FnOk P w K mg base (L2.CX P w) k f fd ps (spIO K ca m g)) : FoI P w K mg base ca k x m g := ⟨f, fd, ps, hm, F.kp, hb, h⟩
end
/-! ### the call -/
def takeD : List Nat → Env → Option (List D × Env)
  | [], τ => some ([], τ)
  | i :: is, τ => match τ.getD i none with
    | none => none
    | some d => (takeD is (τ.set i none)).map fun p => (d :: p.1, p.2)
def putD : List Nat → List D → Env → Env
  | i :: is, d :: ds, τ => putD is ds (τ.set i (some d))
  | _, _, τ => τ
def callI (g : List D → CR2) (is : List Nat) (ds : List D) (τ1 : Env) : R D := match takeD is τ1 with
  | none => .bad
  | some (ios, τ2) => match g (ios ++ freezeL ds) with
    | .ok d outs => if outs.length = is.length then .ok d (putD is outs τ2) else .bad
    | .bad => .bad
def eCallI (g : List D → CR2) (is : List Nat) (m : MA) : ME := fun τ => if is.all (fun i => (τ.getD i none).isSome) = true then (m τ).bind fun ds τ1 => callI g is ds τ1 else .bad
def tIO : List Nat → TA → TA
  | [], t => t
  | i :: r, t => fun σ H Q => ∃ v, σ[i]? = some (some v) ∧ tIO r t σ H fun us H' => Q (v :: us) H'
section
variable {X : Cx} {B : Bx} {W : WX}
theorem pa_io0 {es : List Expr} {t : TA} (h : PA X es t) : PA X es (tIO [] t) := h
theorem pa_io {e : Expr} {es : List Expr} {i : Nat} {is : List Nat} {t : TA} (he : PE X e (tVar i)) (h : PA X es (tIO is t)) (hs : starEach (e :: es) X.env = (false, eval e X.env) :: starEach es X.env := by rfl) : PA X (e :: es) (tIO (i :: is) t) := pa_cons he h hs
theorem io_vals {F H : Hp} {σ : L2.St} {τ : Env} {vs : List V} {ds : List D} (s : StT X.K B F H σ τ vs ds) : ∀ (is : List Nat), is.all (fun i => (τ.getD i none).isSome) = true → ∃ vals : List V, vals.length = is.length ∧ (∀ (j i : Nat), is[j]? = some i → ∃ v, vals[j]? = some v ∧ σ[i]? = some (some v)) ∧ ∀ (t : TA) (H : Hp) (Q : List V → Hp → Prop), (t σ H fun us H' => Q (vals ++ us) H') → tIO is t σ H Q
  | [], _ => ⟨[], rfl, fun j i h => by simp at h, fun t H Q h => h⟩
  | i :: is, h => by
    rw [List.all_cons, Bool.and_eq_true] at h
    obtain ⟨vals, h1, h2, h3⟩ := io_vals s is h.2
    cases e : τ.getD i none with
    | none => rw [e] at h; cases h.1
    | some d =>
      obtain ⟨v, f, k1, _⟩ := s.get (getD_some e)
      refine ⟨v :: vals, by simp [h1], fun j i' hj => ?_, fun t H Q q => ⟨v, k1, h3 t H _ q⟩⟩
      cases j with
      | zero => simp at hj; subst hj; exact ⟨v, rfl, k1⟩
      | succ j => obtain ⟨w, e1, e2⟩ := h2 j i' (by simpa using hj); exact ⟨w, by simpa using e1, e2⟩
theorem StT.takes {F H : Hp} {σ : L2.St} : ∀ {is : List Nat} {τ τ' : Env} {vs vals : List V} {ds ios : List D}, StT X.K B F H σ τ vs ds → takeD is τ = some (ios, τ') → vals.length = is.length → (∀ (j i : Nat), is[j]? = some i → ∃ v, vals[j]? = some v ∧ σ[i]? = some (some v)) → ios.length = is.length ∧ StT X.K B F H σ τ' (vals ++ vs) (ios ++ ds)
  | [], τ, τ', vs, vals, ds, ios, s, e, hl, _ => by
    cases (show some ([], τ) = some (ios, τ') from e)
    cases vals with
    | nil => exact ⟨rfl, s⟩
    | cons _ _ => cases hl
  | i :: is, τ, τ', vs, vals, ds, ios, s, e, hl, hv => by
    cases e1 : τ.getD i none with
    | none =>
      unfold takeD at e
      rw [e1] at e; cases e
    | some d =>
      unfold takeD at e
      rw [e1] at e
      replace e : (takeD is (τ.set i none)).map (fun p => (d :: p.1, p.2)) = some (ios, τ') := e
      cases e2 : takeD is (τ.set i none) with
      | none => rw [e2] at e; cases e
      | some p =>
        rw [e2] at e
        cases e
        cases vals with
        | nil => cases hl
        | cons v vals =>
          obtain ⟨v', k1, k2⟩ := hv 0 i rfl
          obtain ⟨v2, k3, s1⟩ := s.take (getD_some e1)
          have : v' = v := by simpa using k1.symm
          subst this
          rw [k2] at k3
          cases k3
          obtain ⟨hl2, s2⟩ := StT.takes (vals := vals) (ios := p.1) (τ' := p.2) s1 e2 (by simpa using hl) fun j i' hj => by
            obtain ⟨w, q1, q2⟩ := hv (j + 1) i' (by simpa using hj)
            exact ⟨w, by simpa using q1, q2⟩
          have hl3 : vals.length = p.1.length := by
            have : vals.length = is.length := by simpa using hl
            omega
          exact ⟨by simp [hl2], s2.swap hl3⟩
theorem StT.puts {F H : Hp} {σ : L2.St} {v0 : V} {d0 : D} : ∀ {is : List Nat} {τ : Env} {vs vals : List V} {ds outs : List D}, StT X.K B F H σ τ (v0 :: (vals ++ vs)) (d0 :: (outs ++ ds)) → vals.length = is.length → outs.length = is.length → (∀ (j i : Nat), is[j]? = some i → ∃ v, vals[j]? = some v ∧ σ[i]? = some (some v)) → StT X.K B F H σ (putD is outs τ) (v0 :: vs) (d0 :: ds)
  | [], τ, vs, vals, ds, outs, s, hl, ho, _ => by
    cases vals with
    | nil => cases outs with
      | nil => exact s
      | cons _ _ => cases ho
    | cons _ _ => cases hl
  | i :: is, τ, vs, vals, ds, outs, s, hl, ho, hv => by
    cases vals with
    | nil => cases hl
    | cons v vals => cases outs with
      | nil => cases ho
      | cons d outs =>
        obtain ⟨v', k1, k2⟩ := hv 0 i rfl
        have : v' = v := by simpa using k1.symm
        subst this
        have s1 := StT.swap (us := [v0]) (es := [d0]) s rfl
        have s2 := s1.putBack (i := i) (by rw [← s1.len]; exact (List.getElem?_eq_some_iff.mp k2).1) k2
        have s3 : StT X.K B F H σ (τ.set i (some d)) (v0 :: (vals ++ vs)) (d0 :: (outs ++ ds)) := s2
        show StT X.K B F H σ (putD is outs (τ.set i (some d))) (v0 :: vs) (d0 :: ds)
        exact StT.puts (is := is) (vals := vals) (outs := outs) s3 (by simpa using hl) (by simpa using ho) fun j i' hj => by
          obtain ⟨w, q1, q2⟩ := hv (j + 1) i' (by simpa using hj)
          exact ⟨w, by simpa using q1, q2⟩
theorem StT.calledIO {K : PySem.W.Frag} {F H : Hp} {σ : L2.St} {τ : Env} {vs vals : List V} {ds ios : List D} (hl : vals.length = ios.length) (s : StT K B F H σ τ (vals ++ vs) (ios ++ ds)) : ∃ f : Ct, RepOs K B.ca F H ios vals f ∧ (∀ a, f a ≤ 1) ∧ (∀ a, 0 < f a → F a = none) ∧
    ∀ (F' H' : Hp) (v : V) (d : D) (outs : List D) (g' : Ct), Same F F' → Same F' H' → (∀ a o, f a = 0 → H a = some o → H' a = some o) → RepOs K B.ca F' H' (d :: outs) (v :: vals) g' → (∀ a, g' a ≤ 1) → (∀ a, 0 < g' a → F' a = none ∧ (H a = none ∨ 0 < f a)) → (∀ a, F' a ≠ none → F a ≠ none ∨ H a = none ∨ 0 < f a) → StT K B F' H' σ τ (v :: (vals ++ vs)) (d :: (outs ++ ds)) := by
  obtain ⟨f1, f2, A, b, w, io⟩ := s
  obtain ⟨fi, fr, b1, b2, q⟩ := b.split' hl
  have nd : ∀ a, f1 a + (fi a + fr a) ≤ 1 := fun a => by rw [← q]; exact w.nd a
  refine ⟨fi, b1, fun a => by have := nd a; omega, fun a h => w.dF a (by show 0 < f1 a + f2 a; rw [q]; omega), fun F' H' v d outs g' h1 h2 h3 hv h4 h5 h6 => ?_⟩
  have t1 : ∀ x, 0 < f1 x → H x ≠ none := A.there
  have t2 : ∀ x, 0 < fr x → H x ≠ none := b2.there _ _ _
  have k : ∀ x, H x ≠ none → fi x = 0 → H' x = H x := fun x hx hf => by
    cases e : H x with
    | none => exact absurd e hx
    | some o => exact h3 _ _ hf e
  obtain ⟨_, us', g1, g2, ee, hd, ho, hq⟩ := hv
  cases ee
  refine ⟨f1, fun b => g1 b + (g2 b + fr b), A.mono h1 fun x hx => k x (t1 x hx) (by have := nd x; omega), ⟨v, vals ++ vs, g1, fun b => g2 b + fr b, rfl, hd, ho.append (RepOs.mono h1 _ _ _ (fun x hx => k x (t2 x hx) (by have := nd x; omega)) b2), fun _ => rfl⟩, ?_, io⟩
  have old : ∀ x, 0 < f1 x + fr x → F' x = none := fun x hx => by
    have hF := w.dF x (by show 0 < f1 x + f2 x; rw [q]; omega)
    cases e : F' x with
    | none => rfl
    | some o =>
      rcases h6 x (by rw [e]; exact fun z => by cases z) with z | z | z
      · exact absurd hF z
      · by_cases y : 0 < f1 x
        · exact absurd z (t1 x y)
        · exact absurd z (t2 x (by omega))
      · have := nd x; omega
  refine ⟨fun x => ?_, fun x hx => ?_, fun x hx => ?_, h2, fun x o e => h3 x o ?_ (w.sR x o e), w.s0.trans h1, fun x hx => ?_⟩
  · show f1 x + (g1 x + (g2 x + fr x)) ≤ 1
    have g4 := h4 x
    rw [hq] at g4
    by_cases y : 0 < g1 x + g2 x
    · rcases (h5 x (by rw [hq]; exact y)).2 with z | z
      · have : ¬ 0 < f1 x := fun e => t1 x e z
        have : ¬ 0 < fr x := fun e => t2 x e z
        omega
      · have := nd x; omega
    · have := nd x; omega
  · replace hx : 0 < f1 x + (g1 x + (g2 x + fr x)) := hx
    by_cases y : 0 < g1 x + g2 x
    · exact (h5 x (by rw [hq]; exact y)).1
    · exact old x (by omega)
  · replace hx : 0 < f1 x + (g1 x + (g2 x + fr x)) := hx
    by_cases y : 0 < g1 x + g2 x
    · rcases (h5 x (by rw [hq]; exact y)).2 with z | z
      · cases e : B.R x with
        | none => rfl
        | some o => rw [w.sR _ _ e] at z; cases z
      · exact w.dR x (by show 0 < f1 x + f2 x; rw [q]; omega)
    · exact w.dR x (by show 0 < f1 x + f2 x; rw [q]; omega)
  · by_cases y : 0 < fi x
    · have := w.dR x (by show 0 < f1 x + f2 x; rw [q]; omega)
      rw [this] at e; cases e
    · omega
  · rcases h6 x hx with z | z | z
    · exact w.fr x z
    · right
      cases e : B.R x with
      | none => rfl
      | some o => rw [w.sR _ _ e] at z; cases z
    · exact .inr (w.dR x (by show 0 < f1 x + f2 x; rw [q]; omega))
theorem e_callI {x : Str} {p pos : Pos} {e : Expr} {es : List Expr} {m : MA} {g : List D → CR2} {k j n : Nat} {is : List Nat} (c : XOk X W) (G : FoI X.prog X.w X.K X.mg X.base B.ca k x n g) (hr : Room j X.A) (hg : Gl X x) (ha : PA X (e :: es) (tIO is (rdA X.K B W m))) (hn : is.length = n := by rfl) (hk : k ≤ j := by decide) (hdb : (x == ("__debug__" : Str)) = false := by decide)
    (he : starEach (e :: es) X.env = (false, eval e X.env) :: starEach es X.env := by rfl) (hpl : (backTo pos (starEach es X.env)).any (·.1) = false := by rfl) : PE X (.Call (.Name x p) (e :: es) [] pos) (rdE X.K B W (eCallI g is m)) := by
  obtain ⟨f, fd, ps, h1, h2, h3, h4⟩ := G.ex
  refine PE.imp (pe_callS h4 (hr.mono hk) hg h1 h2 h3 (fun σ => passAt c.tk σ) ha hdb he hpl) fun σ H Q h => ?_
  obtain ⟨F, τ, vs, ds, s, p⟩ := h
  unfold eCallI at p
  by_cases z : is.all (fun i => (τ.getD i none).isSome) = true
  · rw [if_pos z] at p
    obtain ⟨vals, v1, v2, v3⟩ := io_vals s is z
    refine v3 _ H _ ⟨F, τ, vs, ds, s, post_imp (post_bind p) (fun as τ1 q us F1 H1 hl s1 => ?_) fun _ _ q => q⟩
    obtain ⟨F2, sm, rl, s2⟩ := s1.freeze hl
    unfold callI at q
    cases et : takeD is τ1 with
    | none => rw [et] at q; exact q.elim
    | some pr =>
      obtain ⟨ios, τ2⟩ := pr
      rw [et] at q
      replace q : post _ _ (match g (ios ++ freezeL as) with | .ok d outs => if outs.length = is.length then R.ok d (putD is outs τ2) else R.bad | .bad => R.bad) := q
      obtain ⟨il, s3⟩ := s2.takes et v1 v2
      have hvl : vals.length = ios.length := by omega
      cases eg : g (ios ++ freezeL as) with
      | bad => rw [eg] at q; exact q.elim
      | ok d outs =>
        rw [eg] at q
        replace q : post _ _ (if outs.length = is.length then R.ok d (putD is outs τ2) else R.bad) := q
        by_cases ol : outs.length = is.length
        · rw [if_pos ol] at q
          obtain ⟨f0, r0, n0, d0, fin⟩ := StT.calledIO hvl s3
          refine ⟨F2, f0, ios, freezeL as, vals, us, rfl, by omega, r0, rl, s3.same, n0, d0, ?_⟩
          rw [eg]
          intro v F' H' g' a1 a2 a3 a4 a5 a6 a7
          exact q v F' H' (StT.puts (fin F' H' v d outs g' a1 a2 a3 a4 a5 a6 a7) v1 ol v2)
        · rw [if_neg ol] at q; exact q.elim
  · rw [if_neg z] at p; exact p.elim
/-! ### a, b = x, y -/
def sPar (i j : Nat) (m : MA) : MS := fun τ => (m τ).s fun ds τ1 => match ds with
  | [x, y] => .nx ((τ1.set i (some x)).set j (some y))
  | _ => .bad
theorem s_par {i j : Nat} {x y : Str} {a b : Expr} {m : MA} {px py pt pos : Pos} {kt k2 pt2} (c : XOk X W) (hN : X.N.Nodup) (hi : X.N[i]? = some x) (hj : X.N[j]? = some y) (hij : i ≠ j)
    (hx : X.env.scope.names.lookup x = some .local) (hy : X.env.scope.names.lookup y = some .local) (ha : PA X [a, b] (rdA X.K B W m))
    (hw : swappedStores [.Tuple [.Name x px, .Name y py] kt pt] (.Tuple [a, b] k2 pt2) X.env = pure (some [x, y]) := by rfl)
    (hs : swapsWithSole [.Tuple [.Name x px, .Name y py] kt pt] (.Tuple [a, b] k2 pt2) pos.line X.env = pure false := by rfl)
    (h1 : ioFree B i := by first | (intro p hp; cases hp; done) | (intro p hp; simp only [List.mem_cons, List.not_mem_nil, or_false] at hp; rcases hp with rfl | rfl <;> simp) | (intro p hp; simp only [List.mem_cons, List.not_mem_nil, or_false] at hp; rcases hp with rfl | rfl | rfl <;> simp) | (intro p hp; simp only [List.mem_cons, List.not_mem_nil, or_false] at hp; subst hp; simp))
    (h2 : ioFree B j := by first | (intro p hp; cases hp; done) | (intro p hp; simp only [List.mem_cons, List.not_mem_nil, or_false] at hp; rcases hp with rfl | rfl <;> simp) | (intro p hp; simp only [List.mem_cons, List.not_mem_nil, or_false] at hp; rcases hp with rfl | rfl | rfl <;> simp) | (intro p hp; simp only [List.mem_cons, List.not_mem_nil, or_false] at hp; subst hp; simp)) :
    PS X (.Assign [.Tuple [.Name x px, .Name y py] kt pt] (.Tuple [a, b] k2 pt2) pos) (rdS X.K B W (sPar i j m)) :=
  PS.imp (ps_par c.calm hN hi hj hij hx hy ha hw hs) fun D σ H ⟨F, τ, vs, ds, s, p⟩ =>
    ⟨F, τ, vs, ds, s, post_imp (post_s (σ := σ) p) (fun es τ1 q us F1 H1 hl s1 => by
      match es, us, hl, s1, q with
      | [d1, d2], [v, w], _, s1, q =>
        refine ⟨v, w, rfl, ?_⟩
        have s2 : StT X.K B F1 H1 σ τ1 (v :: w :: vs) (d1 :: d2 :: ds) := s1
        exact q _ F1 H1 ((s2.put' h1).put' h2)
      | [], _, _, _, q => exact q.elim
      | [_], _, _, _, q => exact q.elim
      | _ :: _ :: _ :: _, _, _, _, q => exact q.elim) fun _ _ q => q⟩
/-! ### sorted, of ints -/
def insI (x : Int) : List Int → List Int
  | [] => [x]
  | y :: r => if x ≤ y then x :: y :: r else y :: insI x r
def sortI : List Int → List Int
  | [] => []
  | x :: r => insI x (sortI r)
theorem insI_perm (x : Int) : ∀ r : List Int, (insI x r).Perm (x :: r)
  | [] => List.Perm.refl _
  | y :: r => by
    unfold insI
    split
    · exact List.Perm.refl _
    · exact ((insI_perm x r).cons y).trans (List.Perm.swap x y r)
theorem sortI_perm : ∀ r : List Int, (sortI r).Perm r
  | [] => List.Perm.refl _
  | x :: r => (insI_perm x (sortI r)).trans ((sortI_perm r).cons x)
theorem insI_sorted (x : Int) : ∀ r : List Int, r.Pairwise (· ≤ ·) → (insI x r).Pairwise (· ≤ ·)
  | [], _ => by simp [insI]
  | y :: r, h => by
    obtain ⟨h1, h2⟩ := List.pairwise_cons.mp h
    unfold insI
    split
    · rename_i q
      refine List.pairwise_cons.mpr ⟨fun z hz => ?_, h⟩
      rcases List.mem_cons.mp hz with rfl | hz
      · exact q
      · exact Int.le_trans q (h1 z hz)
    · rename_i q
      refine List.pairwise_cons.mpr ⟨fun z hz => ?_, insI_sorted x r h2⟩
      rcases List.mem_cons.mp ((insI_perm x r).mem_iff.mp hz) with rfl | hz
      · omega
      · exact h1 z hz
theorem sortI_sorted : ∀ r : List Int, (sortI r).Pairwise (· ≤ ·)
  | [] => List.Pairwise.nil
  | x :: r => insI_sorted x _ (sortI_sorted r)
theorem sorted_eq : ∀ {a b : List Int}, a.Perm b → a.Pairwise (· ≤ ·) → b.Pairwise (· ≤ ·) → a = b
  | [], b, h, _, _ => h.nil_eq
  | x :: a, [], h, _, _ => absurd h.symm (by simp)
  | x :: a, y :: b, h, ha, hb => by
    obtain ⟨a1, a2⟩ := List.pairwise_cons.mp ha
    obtain ⟨b1, b2⟩ := List.pairwise_cons.mp hb
    have e : x = y := by
      have h1 : x ∈ y :: b := h.mem_iff.mp List.mem_cons_self
      have h2 : y ∈ x :: a := h.mem_iff.mpr List.mem_cons_self
      rcases List.mem_cons.mp h1 with e | e
      · exact e
      · rcases List.mem_cons.mp h2 with e2 | e2
        · exact e2.symm
        · have := b1 x e; have := a1 y e2; omega
    subst e
    rw [sorted_eq (List.Perm.cons_inv h) a2 b2]
def eSorted (m : MA) : ME := fun τ => (m τ).bind fun ds τ1 => match freezeL ds with
  | [.lst _ es] => (match intsOf es with
    | some ns => .ok (.lst true ((sortI ns).map D.int)) τ1
    | none => .bad)
  | _ => .bad
theorem repL_intsOf {K : PySem.W.Frag} {ca : Str → Addr} {F : Hp} : ∀ {es : List D} {us : List V} {ns : List Int}, RepL K ca F es us → intsOf es = some ns → us = ns.map V.int
  | [], us, ns, h, e => by
    cases (show some [] = some ns from e)
    exact h
  | d :: es, us, ns, ⟨v, r, e1, h1, h2⟩, e => by
    subst e1
    cases d with
    | int i =>
      cases e2 : intsOf es with
      | none =>
        unfold intsOf at e
        rw [e2] at e; cases e
      | some ms =>
        unfold intsOf at e
        rw [e2] at e
        cases (show some (i :: ms) = some ns from e)
        rw [repL_intsOf h2 e2, (show v = .int i from h1)]
        rfl
    | _ => cases e
theorem repL_int {K : PySem.W.Frag} {ca : Str → Addr} {F : Hp} : ∀ ns : List Int, RepL K ca F (ns.map D.int) (ns.map V.int)
  | [] => rfl
  | i :: r => ⟨.int i, r.map V.int, rfl, rfl, repL_int r⟩
theorem e_sorted {x : Str} {p pos : Pos} {e : Expr} {m : MA} (hg : Gl X x) (hm : X.mg x = none) (hv : bootBuiltins x = some (.builtin "sorted")) (ha : PA X [e] (rdA X.K B W m)) (hn : x ≠ "__name__" := by decide) (hdb : (x == ("__debug__" : Str)) = false := by decide)
    (he : starEach [e] X.env = (false, eval e X.env) :: starEach [] X.env := by rfl) (hpl : (backTo pos (starEach [] X.env)).any (·.1) = false := by rfl) : PE X (.Call (.Name x p) [e] [] pos) (rdE X.K B W (eSorted m)) := PE.imp (pe_callB cr_sortedI hg hm hv ha hn hdb he hpl) fun σ H Q ⟨F, τ, vs, ds, s, p⟩ => by
  refine ⟨F, τ, vs, ds, s, post_imp (post_bind p) (fun es τ1 q us F1 H1 hl s1 => ?_) fun _ _ q => q⟩
  obtain ⟨F2, sm, rl, s2⟩ := s1.freeze hl
  match h : freezeL es, q, rl with
  | [.lst b xs], q, rl =>
    obtain ⟨v, r, rfl, r1, r2⟩ := rl
    cases (show r = [] from r2)
    cases b with
    | true => exact r1.elim
    | false =>
      obtain ⟨a, ws, rfl, h1, h2⟩ := r1
      replace q : post _ _ (match intsOf xs with | some ns => R.ok (D.lst true ((sortI ns).map D.int)) τ1 | none => R.bad) := q
      cases ei : intsOf xs with
      | none => rw [ei] at q; exact q.elim
      | some ns =>
        rw [ei] at q
        have ew := repL_intsOf h2 ei
        subst ew
        refine ⟨a, ns, rfl, sqOf (s2.same _ _ h1), fun ns' l p1 p2 hp => ?_⟩
        have en : ns' = sortI ns := sorted_eq (p1.trans (sortI_perm ns).symm) p2 (sortI_sorted ns)
        subst en
        have hk : RepL X.K B.ca F2 ((sortI ns).map D.int) ((sortI ns).map V.int) := repL_int _
        exact q _ _ _ ((s2.pushL hk).newLst hk.length hp)
  | [], q, _ => exact q.elim
  | [.non], q, _ => exact q.elim
  | [.bl _], q, _ => exact q.elim
  | [.int _], q, _ => exact q.elim
  | [.str _], q, _ => exact q.elim
  | [.ty _], q, _ => exact q.elim
  | [.tup _], q, _ => exact q.elim
  | [.cst _], q, _ => exact q.elim
  | [.val _], q, _ => exact q.elim
  | [.tpo _], q, _ => exact q.elim
  | [.dct _ _ _], q, _ => exact q.elim
  | [.obj _ _ _ _], q, _ => exact q.elim
  | a :: _ :: _, q, _ => cases a <;> exact q.elim
/-! ### xs.index(x) -/
def findP (d : PyData) : List PyData → Nat → Option Nat
  | [], _ => none
  | z :: r, k => if PyData.eqv z d = true then some k else findP d r (k + 1)
theorem findP_ok {d : PyData} : ∀ {ds : List PyData} {k j : Nat}, findP d ds k = some j → k ≤ j ∧ (∃ z, ds[j - k]? = some z ∧ PyData.eqv z d = true) ∧ ∀ (m : Nat) (z : PyData), m < j - k → ds[m]? = some z → PyData.eqv z d = false
  | [], _, _, e => by cases e
  | z :: r, k, j, e => by
    unfold findP at e
    by_cases q : PyData.eqv z d = true
    · rw [if_pos q] at e
      cases e
      exact ⟨Nat.le_refl _, ⟨z, by simp, q⟩, fun m z h => by omega⟩
    · rw [if_neg q] at e
      obtain ⟨h1, ⟨w, h2, h3⟩, h4⟩ := findP_ok e
      refine ⟨by omega, ⟨w, ?_, h3⟩, fun m y hm hy => ?_⟩
      · rw [show j - k = (j - (k + 1)) + 1 by omega, List.getElem?_cons_succ]; exact h2
      · cases m with
        | zero => simp at hy; subst hy; simpa using q
        | succ m => exact h4 m y (by omega) (by simpa using hy)
def gIndex (b a : D) : Option D := match b with
  | .lst m xs => if okP a = true ∧ okP (.lst m xs) = true then (findP (toP a) (toPs xs) 0).map fun j => .int (j : Nat) else none
  | _ => none
theorem z_index {k : Nat} {o e : Expr} {apos cpos : Pos} {m n : MZ} (hr : Room k X.A) (ho : PE X o (rdZ X.K B m)) (he : PE X e (rdZ X.K B n))
    (hbase : attributeBase o "index" X.env (eval o X.env) = eval o X.env := by rfl)
    (hfew : ((backTo cpos (starEach [e] X.env)).all (fun x => !x.1) && (backToKw cpos (keywordEach [] X.env)).all (fun x => x.1.isSome)
      && decide ([e].length + ([] : List Keyword).length + (if ([] : List Keyword).isEmpty then 0 else 1) < 30)) = true := by rfl)
    (hline : (apos.endLine == cpos.line) = true := by rfl) (hs : starEach [e] X.env = (false, eval e X.env) :: starEach [] X.env := by rfl) (hplain : (backTo cpos (starEach [] X.env)).any (·.1) = false := by rfl) :
    PE X (.Call (.Attribute o "index" apos) [e] [] cpos) (rdZ X.K B (z2 gIndex m n)) :=
  PE.imp (pe_bm PySem.F.plainAttrs_list PySem.F.slot_list_index PySem.F.type_list_index (mt_indexD (units65 hr)) ho (pa_cons he pa_nil hs) hbase hfew hline hs hplain) fun σ H Q ⟨F, τ, vs, ds, s, d, e, q⟩ => by
    obtain ⟨b, eb, e⟩ := bind_some e
    obtain ⟨a, ea, e⟩ := bind_some e
    refine ⟨F, τ, vs, ds, s, b, eb, fun x f1 hx => ?_⟩
    cases b with
    | lst mm xs =>
      replace e : (if okP a = true ∧ okP (.lst mm xs) = true then (findP (toP a) (toPs xs) 0).map (fun j => D.int (j : Nat)) else none) = some d := e
      by_cases c : okP a = true ∧ okP (.lst mm xs) = true
      · rw [if_pos c] at e
        cases ef : findP (toP a) (toPs xs) 0 with
        | none => rw [ef] at e; cases e
        | some j =>
          rw [ef] at e
          cases e
          have c1 := c.1
          have c2 := c.2
          unfold okP at c1 c2
          rw [Bool.and_eq_true] at c1 c2
          have hD := RepO.dp (K := X.K) s.same _ x f1 c2.1 hx
          have hx' : ∃ a us, x = .ref a ∧ SqL X.K H a us := by
            cases mm with
            | true => obtain ⟨a, us, g, rfl, h2, _⟩ := hx; exact ⟨a, us, rfl, sqOf h2⟩
            | false => obtain ⟨⟨a, us, rfl, h2, _⟩, _⟩ := hx; exact ⟨a, us, rfl, sqOf (s.same _ _ h2)⟩
          obtain ⟨ad, us, rfl, hsq⟩ := hx'
          refine ⟨.inl ⟨rfl, us, hsq⟩, F, τ, vs, ds, s, a, ea, fun y f2 hy => ?_⟩
          obtain ⟨_, ⟨z, k1, k2⟩, k3⟩ := findP_ok ef
          exact ⟨ad, y, toP a, toPs xs, j, z, rfl, rfl, hD, RepO.dp s.same a y f2 c1.1 hy, c2.2, c1.2, k1, k2, k3, q (.int (j : Nat)) _ (Rep.o (d := .int (j : Nat)) rfl)⟩
      · rw [if_neg c] at e; cases e
    | _ => cases e
/-! ### products by a small number -/
instance decCMul {i j : Int} : Decidable (CMul i j) := by unfold CMul; infer_instance
def gMulS : D → D → Option D := gIC CMul fun i j => .int (i * j)
theorem sMulS {K : PySem.W.Frag} : OpS K (rI CMul fun i j => .int (i * j)) gMulS := opS_IC fun _ _ _ _ => rfl
/-! ### is, of truths -/
def gIsB : D → D → Option D
  | .bl a, .bl b => some (.bl (decide (a = b)))
  | _, _ => none
theorem sIsB {K : PySem.W.Frag} : OpS K (fun x y H Q => ∃ a b, x = .bl a ∧ y = .bl b ∧ Q (.bl (decide (a = b))) H) gIsB := by
  intro ca F H x y a b d f1 f2 Q sm hx hy e q
  cases a with
  | bl i => cases b with
    | bl j =>
      cases (show some (D.bl (decide (i = j))) = some d from e)
      exact ⟨i, j, hx.1, hy.1, q (.bl _) _ (Rep.o (d := .bl _) rfl)⟩
    | _ => cases e
  | _ => cases e
end
end Bn

/-! list(reversed(xs)); clear, pop, insert. -/
namespace Bn
open PySem PySem.Spec PyProof.Rows L2
section
variable {prog : Program} {w : World} {A : Around} {E : Value → Shared → Prop} {s : Shared}
theorem extend_rev {R : Result → Shared → Prop} (hh : A.handled = none) {it l S : Addr} {items : Array Value} (res : Value) (c₀ : Nat) (hS : s.heap.get? S = some { cls := .type "list", data := .seq #[] c₀ })
    (hit : s.heap.IsRevIter it l ((items.size : Int) - 1)) (hl : s.heap.IsList l items) (hne : l ≠ it) (hSi : S ≠ it) (hSl : S ≠ l) (hn : items.size ≤ sizeLine)
    (hR : ∀ h' tk acc' c', (∀ b o, b ≠ S → b ≠ it → s.heap.get? b = some o → h'.get? b = some o) → h'.get? S = some { cls := .type "list", dict := none, data := .seq acc' c', slots := #[] } →
      ItemsOf (fun i v => items[items.size - 1 - i]? = some v) acc' items.size → R (.ok (.ret res)) { s with heap := h', toks := tk }) :
    wpAny (model prog w) A.in1 (Builtin.List.listExtendWith (.ref S) (.ref it) res)
      (fun fin s' => match fin with | .done f => R (.ok f) s' | .again c' => c'.quiet = true ∧ codeAny (model prog w) A c' R s') (fun e s' => R (.error e) s') s := by
  have W := (Walks.listRev (prog := prog) (w := w) (A := A.in1) hh it l hne items).toS
  have hSf : S ∉ [it, l] := by simp only [List.mem_cons, List.not_mem_nil, or_false, not_or]; exact ⟨hSi, hSl⟩
  have hT : s.TypeIs (.ref it) "list_reverseiterator" := Heap.IsRevIter.typeIs hit
  have h1 : Builtin.List.listSameRef (.ref S) (.ref it) = false := by simp [Builtin.List.listSameRef, hSi]
  unfold Builtin.List.listExtendWith
  refine wpAny_bind (wpAny_typeOf hT ?_)
  rw [if_neg (by rw [h1]; decide)]
  refine wpAny_bind (wpAny_pyIter_revIter hit ?_)
  refine wpAny_bind (wpAny_holding ?_)
  unfold Builtin.List.listLengthHint
  refine wpAny_bind (wpAny_specialOf hT RT.nolen_lri ?_)
  show wpAny _ A.in1 (specialOf (Value.ref it) (Str.ofString "__length_hint__") >>= _) _ _ _
  refine wpAny_bind (wpAny_specialOf hT RT.hint_lri ?_)
  generalize hid : ("list_reverseiterator.__length_hint__" : String) = id0
  wp_delta
  rw [show splitId id0 = some ("list_reverseiterator", "__length_hint__") from by subst hid; decide +kernel]
  subst hid
  refine wpAny_bind (wpAny_isInstance (b := true) hT (by rw [isSubtype_type]; kernel_rfl) ?_)
  refine wpAny_pure ?_
  rw [if_neg (by decide)]
  have e0 : ((items.size : Nat) : Int) - 1 - ((0 : Nat) : Int) = (items.size : Int) - 1 := by omega
  refine wpAny_pure ⟨plainId_quiet F.plain_extend_loop _, codeAny_extend_loopS W hn _ hSf _ items.size 0 _ _ _ rfl (Nat.zero_le _) ⟨Nat.zero_le _, by rw [e0]; exact hit, hl⟩ hS (ItemsOf.nil _) fun s' acc' c' hm hS' hacc => ?_⟩
  rw [Moved.eq_with hm]
  obtain ⟨ol, hol, _⟩ := id hl
  refine hR s'.heap s'.toks acc' c' (fun b o hb hbi e => hm.heap b o (fun hmem => ?_) e) hS' hacc
  rcases List.mem_cons.mp hmem with e' | hmem
  · exact hb e'
  · exact hbi (List.mem_singleton.mp hmem)
theorem list_init_rev {R : Result → Shared → Prop} (hh : A.handled = none) {it l S : Addr} {items : Array Value} (hS : s.heap.get? S = some { cls := .type "list", data := .seq #[] })
    (hit : s.heap.IsRevIter it l ((items.size : Int) - 1)) (hl : s.heap.IsList l items) (hne : l ≠ it) (hSi : S ≠ it) (hSl : S ≠ l) (hn : items.size ≤ sizeLine)
    (hR : ∀ h' tk acc' c', (∀ b o, b ≠ S → b ≠ it → s.heap.get? b = some o → h'.get? b = some o) → h'.get? S = some { cls := .type "list", dict := none, data := .seq acc' c', slots := #[] } →
      ItemsOf (fun i v => items[items.size - 1 - i]? = some v) acc' items.size → R (.ok (.ret .none)) { s with heap := h', toks := tk }) :
    wpAny (model prog w) A.in1 (Builtin.«list.__init__» ⟨[.ref S, .ref it], []⟩)
      (fun fin s' => match fin with | .done f => R (.ok f) s' | .again c' => c'.quiet = true ∧ codeAny (model prog w) A c' R s') (fun e s' => R (.error e) s') s := by
  show wpAny _ _ (do let old ← Builtin.List.listItems (.ref S); Builtin.List.listUpdate (.ref S) (fun _ => #[]); letGo old.toList.reverse; Builtin.List.listExtendWith (.ref S) (.ref it) .none) _ _ s
  refine wpAny_bind ?_
  unfold Builtin.List.listItems
  refine wpAny_bind (wpAny_seqItems hS rfl (wpAny_pure ?_))
  show wpAny _ _ (updateSeq S (fun _ => #[]) >>= fun _ => letGo (#[] : Array Value).toList.reverse >>= fun _ => Builtin.List.listExtendWith (.ref S) (.ref it) .none) _ _ s
  refine wpAny_bind (wpAny_updateSeq hS rfl ?_)
  have hS₂ := Heap.get?_update_self (Obj.mapSeq (fun _ => (#[] : Array Value))) hS rfl
  have oth : ∀ b o, b ≠ S → s.heap.get? b = some o → (s.heap.update S (Obj.mapSeq (fun _ => (#[] : Array Value)))).get? b = some o :=
    fun b o hb e => (Heap.get?_update_other _ _ (Ne.symm hb)).trans e
  refine wpAny_bind (wpAny_letGo ?_)
  obtain ⟨oi, hoi, ci, di⟩ := id hit
  obtain ⟨ol, hol, cl, nl, dl⟩ := id hl
  refine extend_rev (s := { s with heap := s.heap.update S (Obj.mapSeq (fun _ => (#[] : Array Value))) }) hh .none _ hS₂ ⟨oi, oth _ _ (Ne.symm hSi) hoi, ci, di⟩ ⟨ol, oth _ _ (Ne.symm hSl) hol, cl, nl, dl⟩ hne hSi hSl hn fun h' tk acc' c' hk hS' hacc => ?_
  exact hR h' tk acc' c' (fun b o hb hbi e => hk b o hb hbi (oth b o hb e)) hS' hacc
theorem call_list_rev {it l : Addr} {items : Array Value} {Q : Value → Shared → Prop} (hh : A.handled = none) (hit : s.heap.IsRevIter it l ((items.size : Int) - 1)) (hl : s.heap.IsList l items) (hne : l ≠ it) (hn : items.size ≤ sizeLine)
    (hQ : ∀ h' tk acc' c', (∀ b o, b ≠ it → s.heap.get? b = some o → h'.get? b = some o) →
      h'.get? s.heap.objs.size = some { cls := .type "list", dict := none, data := .seq acc' c', slots := #[] } → ItemsOf (fun i v => items[items.size - 1 - i]? = some v) acc' items.size → Q (.ref s.heap.objs.size) { s with heap := h', toks := tk }) :
    wpAny (model prog w) A (call (.type "list") [.ref it]) Q E s := by
  refine callType_codes (Q₁ := fun obj s₁ => obj = .ref s.heap.objs.size ∧ s₁ = { s with heap := s.heap.push { cls := .type "list", data := .seq #[] } }) PySem.F.called_list (PySem.F.typeCall_list_1 _) PySem.F.entry_list_init
    (code_list_new _ ⟨rfl, rfl⟩) fun obj s₁ h₁ => ?_
  obtain ⟨rfl, rfl⟩ := h₁
  have hS : (s.heap.push { cls := .type "list", data := .seq #[] }).get? s.heap.objs.size = some { cls := .type "list", data := .seq #[] } := Heap.get?_push_size _ rfl
  obtain ⟨oi, hoi, ci, di⟩ := id hit
  obtain ⟨ol, hol, cl, nl, dl⟩ := id hl
  refine ⟨⟨_, hS, rfl⟩, PySem.F.args_list_init_2 _ _, list_init_rev (s := { s with heap := s.heap.push { cls := .type "list", data := .seq #[] } }) (A := A.in1) hh hS ⟨oi, Heap.get?_push_of_some _ hoi, ci, di⟩ (hl.push _) hne (Nat.ne_of_gt (Heap.lt_size hoi)) (Nat.ne_of_gt (Heap.lt_size hol)) hn (fun h' tk acc' c' hk hS' hacc => ?_)⟩
  exact ⟨rfl, hQ h' tk acc' c' (fun b o hb e => hk b o (Nat.ne_of_lt (Heap.lt_size e)) hb (Heap.get?_push_of_some _ e)) hS' hacc⟩
end
/-- list(reversed(x)), x a list: a new list -/
def tLstRev (K : PySem.W.Frag) (te : TE) : TE := fun σ H Q => te σ H fun v H1 => ∃ (a : Addr) (xs : List V), v = .ref a ∧ SqL K H1 a xs ∧ ∀ q, H1 q = none → Q (.ref q) (upd H1 q (.lst xs.reverse))
section
variable {X : Cx}
theorem pe_lstRev {e : Expr} {te : TE} {p p2 pos pos2 : Pos} (hc : X.calm = true) (hg : Gl X "list") (hm : X.mg "list" = none) (hg2 : Gl X "reversed") (hm2 : X.mg "reversed" = none) (he : PE X e te)
    (hs : starEach [e] X.env = (false, eval e X.env) :: starEach [] X.env := by rfl)
    (hs2 : starEach [.Call (.Name "reversed" p2) [e] [] pos2] X.env = (false, eval (.Call (.Name "reversed" p2) [e] [] pos2) X.env) :: starEach [] X.env := by rfl) :
    PE X (.Call (.Name "list" p) [.Call (.Name "reversed" p2) [e] [] pos2] [] pos) (tLstRev X.K te) := by
  refine ⟨fun pins s σ H Q I h => ?_⟩
  refine Call_ (ld_blt I hg hm boot_list (PyProof.Rows.callWith_type1 (args_cons (Call_ (ld_blt I hg2 hm2 PyProof.Rows.boot_reversed (PyProof.Rows.callWith_type1 (args_cons (thn (he.run pins s σ H _ I h) fun u s1 ⟨v, H1, I1, r1, q1⟩ => args_nil ?_) hs) hs rfl))) hs2) hs2 rfl))
  obtain ⟨a, xs, ev, hq, q⟩ := q1
  subst ev
  obtain rfl : u = Value.ref a := r1
  obtain ⟨its, rv, p', hz⟩ := I1.list hq
  refine call_reversed_list p'.isList (args_nil ?_)
  have k0 : ∀ b o, s1.heap.get? b = some o → (s1.heap.push (revObj a ((its.toArray.size : Int) - 1))).get? b = some o := fun b o e => Heap.get?_push_of_some _ e
  have I2 : Inv X pins σ H1 { s1 with heap := s1.heap.push (revObj a ((its.toArray.size : Int) - 1)) } := I1.kept (t' := s1.toks) k0
  obtain ⟨f0, f1, f2, f3, f4, f5⟩ := I1.fpOk (H' := H1) (b := s1.heap.objs.size) (Nat.le_refl _) (I1.hok.fresh (Nat.le_refl _))
  have hl := p'.isList
  obtain ⟨ol, hol, _⟩ := id hl
  have hne : a ≠ s1.heap.objs.size := Nat.ne_of_lt (Heap.lt_size hol)
  have hn : its.toArray.size ≤ sizeLine := by rw [List.size_toArray, ← rv.length]; exact hz
  refine call_list_rev (s := { s1 with heap := s1.heap.push (revObj a ((its.toArray.size : Int) - 1)) }) (I1.ok.hd hc) ⟨_, Heap.get?_push_size _ rfl, rfl, rfl⟩ (hl.push _) hne hn fun h' tk acc c' hk hS' hi => ?_
  have hle : s1.heap.objs.size ≤ (s1.heap.push (revObj a ((its.toArray.size : Int) - 1))).objs.size := by
    show s1.heap.objs.size ≤ (s1.heap.objs.push _).size
    rw [Array.size_push]; omega
  refine ⟨.ref (s1.heap.push (revObj a ((its.toArray.size : Int) - 1))).objs.size, upd H1 (s1.heap.push (revObj a ((its.toArray.size : Int) - 1))).objs.size (.lst xs.reverse), I1.laid (t' := tk) (fun b o e => hk b o (Nat.ne_of_lt (Heap.lt_size e)) (k0 b o e)) hle (show ObjOk X.prog X.w _ h' _ (.lst xs.reverse) from ⟨by rw [List.length_reverse]; exact hz, acc.toList, c', RT.vals_rev rv hi, ?_⟩), rfl, q _ (I1.hok.fresh hle)⟩
  rw [Array.toArray_toList]
  exact hS'
end

section
variable {X : Cx} {B : Bx} {W : WX}
def eLstRev (m : ME) : ME := fun τ => (m τ).bind fun d τ1 => match freeze d with
  | .lst _ es => .ok (.lst true es.reverse) τ1
  | _ => .bad
theorem RepL.app {K : PySem.W.Frag} {ca : Str → Addr} {F : Hp} : ∀ {ds es : List D} {vs us : List V}, RepL K ca F ds vs → RepL K ca F es us → RepL K ca F (ds ++ es) (vs ++ us)
  | [], es, vs, us, h, k => by cases (show vs = [] from h); exact k
  | d :: ds, es, _, us, ⟨v, r, h1, h2, h3⟩, k => by subst h1; exact ⟨v, r ++ us, rfl, h2, h3.app k⟩
theorem RepL.rev {K : PySem.W.Frag} {ca : Str → Addr} {F : Hp} : ∀ {ds : List D} {vs : List V}, RepL K ca F ds vs → RepL K ca F ds.reverse vs.reverse
  | [], vs, h => by cases (show vs = [] from h); exact rfl
  | d :: ds, _, ⟨v, r, h1, h2, h3⟩ => by
    subst h1
    rw [List.reverse_cons, List.reverse_cons]
    exact h3.rev.app ⟨v, [], rfl, h2, rfl⟩
theorem e_lstRev {e : Expr} {p p2 pos pos2 : Pos} {m : ME} (c : XOk X W) (hg : Gl X "list") (hm : X.mg "list" = none) (hg2 : Gl X "reversed") (hm2 : X.mg "reversed" = none) (he : PE X e (rdE X.K B W m))
    (hs : starEach [e] X.env = (false, eval e X.env) :: starEach [] X.env := by rfl)
    (hs2 : starEach [.Call (.Name "reversed" p2) [e] [] pos2] X.env = (false, eval (.Call (.Name "reversed" p2) [e] [] pos2) X.env) :: starEach [] X.env := by rfl) :
    PE X (.Call (.Name "list" p) [.Call (.Name "reversed" p2) [e] [] pos2] [] pos) (rdE X.K B W (eLstRev m)) := PE.imp (pe_lstRev c.calm hg hm hg2 hm2 he hs hs2) fun σ H Q ⟨F, τ, vs, ds, s, p⟩ => by
  refine ⟨F, τ, vs, ds, s, post_imp (post_bind p) (fun d τ1 q v F1 H1 s1 => ?_) fun _ _ q => q⟩
  obtain ⟨F2, sm, ⟨v', r, e1, rl, _⟩, s2⟩ := StT.freeze (us := [v]) (es := [d]) s1 rfl
  cases e1
  match h : freeze d, q, rl with
  | .lst b xs, q, rl =>
    cases b with
    | true => exact rl.elim
    | false =>
      obtain ⟨a, ws, rfl, h1, h2⟩ := rl
      exact ⟨a, ws, rfl, sqOf (s2.same _ _ h1), fun l hl => q _ _ _ ((s2.pushL h2.rev).newLst h2.rev.length hl)⟩
/-! ### clear -/
def sClear (i : Nat) : MS := fun τ => match τ.getD i none with
  | some (.lst true _) => .nx (τ.set i (some (.lst true [])))
  | _ => .bad
theorem s_clear {i : Nat} {o : Expr} {apos cpos pos : Pos} (ho : PE X o (tVar i))
    (hbase : attributeBase o "clear" X.env (eval o X.env) = eval o X.env := by rfl) (hline : (apos.endLine == cpos.line) = true := by rfl)
    (hsw : swapsWith (.Call (.Attribute o "clear" apos) [] [] cpos) none pos.line X.env = pure false := by rfl) : PS X (.Expr (.Call (.Attribute o "clear" apos) [] [] cpos) pos) (rdS X.K B W (sClear i)) :=
  PS.imp (ps_expr (pe_bm0 PySem.F.plainAttrs_list PySem.F.slot_list_clear PySem.F.type_list_clear mt_clear ho hbase hline) hsw) fun D σ H ⟨F, τ, vs, ds, s, p⟩ => by
    unfold sClear at p
    split at p
    · rename_i es e0
      have e0' := getD_some e0
      obtain ⟨v, k1, s2⟩ := s.take e0'
      obtain ⟨f, a, us, g, rfl, hx, hg, _⟩ := s2.top
      refine ⟨.ref a, k1, .inl ⟨rfl, us, sqOf hx⟩, a, us, rfl, rfl, hx, ?_⟩
      have s3 := StT.change (us := []) (ds := []) (ys := []) (es2 := []) s2 rfl hx fun g1 g2 r1 r2 => ⟨fun _ => 0, ⟨rfl, fun _ => rfl⟩, fun b => Nat.zero_le _⟩
      have s4 := s3.putBack (i := i) (by rw [List.length_set]; exact (List.getElem?_eq_some_iff.mp e0').1) k1
      rw [List.set_set] at s4
      exact p σ F _ s4
    · exact p.elim
/-! ### for y in xs: y.clear() -/
def isOwnL : D → Bool
  | .lst true _ => true
  | _ => false
theorem RepOs.clr {K : PySem.W.Frag} {ca : Str → Addr} {F H : Hp} : ∀ {es : List D} {us : List V} {g : Ct} {k : Nat} {ws : List D}, RepOs K ca F H es us g → es[k]? = some (.lst true ws) → (∀ a, g a ≤ 1) →
    ∃ b vs, us[k]? = some (.ref b) ∧ H b = some (.lst vs) ∧ 0 < g b ∧ ∃ g', RepOs K ca F (upd H b (.lst [])) (es.set k (.lst true [])) us g' ∧ ∀ x, g' x ≤ g x
  | [], _, _, _, _, _, e, _ => by simp at e
  | d :: es, _, g, 0, ws, ⟨v, r, f1, f2, e, h1, h2, h3⟩, hd, nd => by
    subst e
    have : d = .lst true ws := by simpa using hd
    subst this
    obtain ⟨b, vs, g1, rfl, hx, hg, q⟩ := h1
    have f1b : f1 b = 1 + g1 b := by rw [q, if_pos rfl]
    have one := nd b
    rw [h3, f1b] at one
    refine ⟨b, vs, rfl, hx, by rw [h3, f1b]; omega, fun x => (if x = b then 1 else 0) + f2 x, ?_, fun x => ?_⟩
    · refine ⟨.ref b, r, fun x => if x = b then 1 else 0, f2, rfl, ⟨b, [], fun _ => 0, rfl, upd_same, ⟨rfl, fun _ => rfl⟩, fun x => rfl⟩, RepOs.mono (Same.refl _) _ _ _ (fun x hx => upd_ne fun e => ?_) h2, fun _ => rfl⟩
      subst e; omega
    · show (if x = b then 1 else 0) + f2 x ≤ g x
      rw [h3, q]; omega
  | d :: es, _, g, k + 1, ws, ⟨v, r, f1, f2, e, h1, h2, h3⟩, hd, nd => by
    subst e
    obtain ⟨b, vs, k1, k2, k3, g', k4, k5⟩ := RepOs.clr (k := k) (ws := ws) h2 (by simpa using hd) (fun a => by have := nd a; rw [h3] at this; omega)
    have one := nd b
    rw [h3] at one
    refine ⟨b, vs, by simpa using k1, k2, by rw [h3]; omega, fun x => f1 x + g' x, ⟨v, r, f1, g', rfl, RepO.mono (Same.refl _) _ _ _ (fun x hx => upd_ne fun e => ?_) h1, k4, fun _ => rfl⟩, fun x => by show f1 x + g' x ≤ g x; rw [h3]; have := k5 x; omega⟩
    subst e; omega
theorem StT.clr {K : PySem.W.Frag} {F H : Hp} {σ : L2.St} {τ : Env} {vs : List V} {es ds ws : List D} {a : Addr} {k : Nat} (s : StT K B F H σ τ (.ref a :: vs) (.lst true es :: ds)) (hk : es[k]? = some (.lst true ws)) :
    ∃ us b xs, H a = some (.lst us) ∧ us[k]? = some (.ref b) ∧ H b = some (.lst xs) ∧ StT K B F (upd H b (.lst [])) σ τ (.ref a :: vs) (.lst true (es.set k (.lst true [])) :: ds) := by
  obtain ⟨f1, f2, A, ⟨_, _, g1, g2, e, h, b2, q⟩, w, io⟩ := s
  cases e
  obtain ⟨a', us, g3, e', hx, h3, q3⟩ := h
  cases e'
  have tot : ∀ x, f1 x + f2 x = f1 x + ((if x = a then 1 else 0) + g3 x + g2 x) := fun x => by rw [q, q3]
  have nd : ∀ x, f1 x + ((if x = a then 1 else 0) + g3 x + g2 x) ≤ 1 := fun x => by rw [← tot]; exact w.nd x
  obtain ⟨b, xs, k1, k2, k3, g', k4, k5⟩ := RepOs.clr h3 hk fun x => by have := nd x; omega
  have nb := nd b
  have hba : a ≠ b := fun e => by subst e; rw [if_pos rfl] at nb; omega
  rw [if_neg (fun e => hba e.symm)] at nb
  have off : ∀ {φ : Ct}, φ b = 0 → ∀ x, 0 < φ x → upd H b (.lst []) x = H x := fun {φ} hz x hx => upd_ne fun e => by rw [e, hz] at hx; omega
  have fb : F b = none := w.dF b (by show 0 < f1 b + f2 b; rw [tot]; omega)
  have rb : B.R b = none := w.dR b (by show 0 < f1 b + f2 b; rw [tot]; omega)
  refine ⟨us, b, xs, hx, k1, k2, f1, fun x => ((if x = a then 1 else 0) + g' x) + g2 x, A.mono (Same.refl _) (off (by omega)), ⟨.ref a, vs, fun x => (if x = a then 1 else 0) + g' x, g2, rfl, ⟨a, us, g', rfl, (upd_ne hba).trans hx, k4, fun _ => rfl⟩, RepOs.mono (Same.refl _) _ _ _ (off (by omega)) b2, fun _ => rfl⟩, ?_, io⟩
  have w2 : Wd B F H (fun x => f1 x + (((if x = a then 1 else 0) + g' x) + g2 x)) := w.less fun x => by
    show f1 x + (((if x = a then 1 else 0) + g' x) + g2 x) ≤ f1 x + f2 x
    have := tot x; have := k5 x; omega
  exact ⟨w2.nd, w2.dF, w2.dR, fun x o e => by rw [upd_ne (ne_of_none e fb)]; exact w.sF x o e, fun x o e => by rw [upd_ne (ne_of_none e rb)]; exact w.sR x o e, w.s0, w.fr⟩
def clrL (k : Nat) (es : List D) : List D := List.replicate k (.lst true []) ++ es.drop k
theorem clrL_set {k : Nat} {es : List D} (h : k < es.length) : (clrL k es).set k (.lst true []) = clrL (k + 1) es := by
  unfold clrL
  rw [List.set_append_right _ _ (by simp), List.length_replicate, Nat.sub_self, List.drop_eq_getElem_cons h, List.set_cons_zero, List.replicate_succ', List.append_assoc]
  rfl
theorem clrL_get {k : Nat} {es : List D} (h : k < es.length) : (clrL k es)[k]? = some es[k] := by
  unfold clrL
  rw [List.getElem?_append_right (by simp), List.length_replicate, Nat.sub_self, List.drop_eq_getElem_cons h]
  rfl
theorem clrL_length {k : Nat} {es : List D} (h : k ≤ es.length) : (clrL k es).length = es.length := by
  unfold clrL
  rw [List.length_append, List.length_replicate, List.length_drop]; omega
def sClearEach (i j : Nat) : MS := fun τ => match τ.getD i none with
  | some (.lst true es) => if es.all isOwnL = true ∧ j < τ.length then .nx ((τ.set j none).set i (some (.lst true (clrL es.length es)))) else .bad
  | _ => .bad
theorem s_clearEach {i j : Nat} {y : Str} {it o : Expr} {py apos cpos epos pos : Pos} (c : XOk X W) (hN : X.N.Nodup) (hj : X.N[j]? = some y) (hx : Loc X.env.scope y) (hij : i ≠ j) (hi : PE X it (tVar i)) (ho : PE X o (tVar j))
    (hio : ioFree B j := by first | (intro p hp; cases hp; done) | (intro p hp; simp only [List.mem_cons, List.not_mem_nil, or_false] at hp; rcases hp with rfl | rfl <;> simp) | (intro p hp; simp only [List.mem_cons, List.not_mem_nil, or_false] at hp; rcases hp with rfl | rfl | rfl <;> simp) | (intro p hp; simp only [List.mem_cons, List.not_mem_nil, or_false] at hp; subst hp; simp))
    (hf : X.fn y = true ∨ X.env.scope.names.lookup y = some .local := by first | exact .inl rfl | exact .inr rfl | assumption)
    (hbase : attributeBase o "clear" X.env (eval o X.env) = eval o X.env := by rfl) (hline : (apos.endLine == cpos.line) = true := by rfl)
    (hsw : swapsWith (.Call (.Attribute o "clear" apos) [] [] cpos) none epos.line X.env = pure false := by rfl) (hs : ∀ x, foldedSetIterable it X.env x = pure x := by intro _; rfl) :
    PS X (.For (.Name y py) it [.Expr (.Call (.Attribute o "clear" apos) [] [] cpos) epos] [] pos) (rdS X.K B W (sClearEach i j)) :=
  PS.imp (ps_for c.hp c.calm (pi_list hi) (pg_name hN hj hx hf) (pss_one (ps_expr (pe_bm0 PySem.F.plainAttrs_list PySem.F.slot_list_clear PySem.F.type_list_clear mt_clear ho hbase hline) hsw)) hs) fun D σ H ⟨F, τ, vs, ds, s, p⟩ => by
    unfold sClearEach at p
    split at p
    · rename_i es e0
      have e0' := getD_some e0
      by_cases hall' : es.all isOwnL = true ∧ j < τ.length
      · rw [if_pos hall'] at p
        obtain ⟨hall, hjl⟩ := hall'
        have sl := s.len
        obtain ⟨v, k1, s2⟩ := (s.forget (i := j)).take (i := i) (d := .lst true es) (by rw [List.getElem?_set_ne (fun e => hij e.symm)]; exact e0')
        obtain ⟨f, a, us, g, rfl, hx0, hg, _⟩ := s2.top
        refine ⟨.ref a, k1, a, rfl, ⟨us, sqOf hx0⟩, fun k m σ H => m = es.length - k ∧ k ≤ es.length ∧ σ[i]? = some (some (.ref a)) ∧ j < σ.length ∧ StT X.K B F H σ ((τ.set j none).set i none) (.ref a :: vs) (.lst true (clrL k es) :: ds), ⟨_, rfl, Nat.zero_le _, k1, ?_, s2⟩, ?_⟩
        · rw [sl]; exact hjl
        · rintro k m σ1 H1 ⟨rfl, hk, q1, q2, s1⟩
          by_cases hlt : k < es.length
          · obtain ⟨ws, hws⟩ : ∃ ws, es[k] = .lst true ws := by
              have := List.all_eq_true.mp hall es[k] (List.getElem_mem hlt)
              cases h : es[k] with
              | lst m xs => cases m with
                | true => exact ⟨xs, rfl⟩
                | false => rw [h] at this; cases this
              | _ => rw [h] at this; cases this
            have hget := clrL_get hlt
            rw [hws] at hget
            obtain ⟨us1, b, xs, y1, y2, y3, s3⟩ := s1.clr hget
            rw [clrL_set hlt] at s3
            refine .inr ⟨⟨us1, _, sqOf y1, y2⟩, fun σ' H' => σ'[i]? = some (some (.ref a)) ∧ j < σ'.length ∧ StT X.K B F H' σ' ((τ.set j none).set i none) (.ref a :: vs) (.lst true (clrL (k + 1) es) :: ds), fun σ' H' ⟨z1, z2, z3⟩ => ⟨es.length - (k + 1), by omega, rfl, hlt, z1, z2, z3⟩, fun x H' hy => ?_⟩
            obtain ⟨rfl, hy⟩ := hy
            have hxb := hy us1 (sqOf y1)
            rw [y2] at hxb
            cases hxb
            refine ⟨.ref b, by rw [List.getElem?_set_self q2], .inl ⟨rfl, xs, sqOf y3⟩, b, xs, rfl, rfl, y3, ?_, by rw [List.length_set]; exact q2, ?_⟩
            · rw [List.getElem?_set_ne (fun e => hij e.symm)]; exact q1
            · refine s3.reset (by rw [List.length_set]) (fun j' d hd => ?_) (fun q hq => ?_)
              · rw [List.getElem?_set_ne]
                intro e
                subst e
                rw [List.getElem?_set_ne hij] at hd
                rw [List.getElem?_set_self'] at hd
                cases h : τ[j]? with
                | none => rw [h] at hd; cases hd
                | some z => rw [h] at hd; cases hd
              · obtain ⟨_, _, _, _, _, io⟩ := s1
                rw [List.getElem?_set_ne (fun e => hio q hq (by rw [e]))]
                exact io q hq
          · have e : k = es.length := by omega
            subst e
            obtain ⟨f, a', us, g, ea, y1, y2, _⟩ := s1.top
            cases ea
            refine .inl ⟨⟨us, sqOf y1, by rw [y2.length, clrL_length hk]; exact Nat.le_refl _⟩, ?_⟩
            have s4 := s1.putBack (i := i) (by rw [List.length_set, List.length_set]; exact (List.getElem?_eq_some_iff.mp e0').1) q1
            rw [List.set_set] at s4
            exact p σ1 F _ s4
      · rw [if_neg hall'] at p; exact p.elim
    · exact p.elim
/-! ### pop, insert -/
theorem RepOs.eraseI {K : PySem.W.Frag} {ca : Str → Addr} {F H : Hp} : ∀ {es : List D} {us : List V} {g : Ct} (k : Nat), RepOs K ca F H es us g → ∃ g', RepOs K ca F H (es.eraseIdx k) (us.eraseIdx k) g' ∧ ∀ x, g' x ≤ g x
  | [], us, g, k, h => by
    have h0 : us = [] := h.1
    subst h0
    exact ⟨g, h, fun _ => Nat.le_refl _⟩
  | d :: es, _, g, 0, ⟨v, r, f1, f2, e, h1, h2, h3⟩ => by
    subst e
    exact ⟨f2, h2, fun x => by rw [h3]; omega⟩
  | d :: es, _, g, k + 1, ⟨v, r, f1, f2, e, h1, h2, h3⟩ => by
    subst e
    obtain ⟨g', k1, k2⟩ := RepOs.eraseI k h2
    exact ⟨fun x => f1 x + g' x, ⟨v, _, f1, g', rfl, h1, k1, fun _ => rfl⟩, fun x => by show f1 x + g' x ≤ g x; rw [h3]; have := k2 x; omega⟩
theorem RepOs.insI {K : PySem.W.Frag} {ca : Str → Addr} {F H : Hp} {d0 : D} {v0 : V} {f0 : Ct} (h0 : RepO K ca F H d0 v0 f0) : ∀ {es : List D} {us : List V} {g : Ct} (k : Nat), RepOs K ca F H es us g → ∃ g', RepOs K ca F H (es.take k ++ [d0] ++ es.drop k) (us.take k ++ [v0] ++ us.drop k) g' ∧ ∀ x, g' x ≤ g x + f0 x
  | es, us, g, 0, h => by
    refine ⟨fun x => f0 x + g x, ?_, fun x => by show f0 x + g x ≤ g x + f0 x; omega⟩
    simp only [List.take_zero, List.drop_zero, List.nil_append, List.singleton_append]
    exact ⟨v0, us, f0, g, rfl, h0, h, fun _ => rfl⟩
  | [], us, g, k + 1, h => by
    have e : us = [] := h.1
    subst e
    refine ⟨f0, ?_, fun x => by omega⟩
    exact ⟨v0, [], f0, fun _ => 0, rfl, h0, ⟨rfl, fun _ => rfl⟩, fun _ => rfl⟩
  | d :: es, _, g, k + 1, ⟨v, r, f1, f2, e, h1, h2, h3⟩ => by
    subst e
    obtain ⟨g', k1, k2⟩ := RepOs.insI h0 k h2
    exact ⟨fun x => f1 x + g' x, ⟨v, _, f1, g', rfl, h1, k1, fun _ => rfl⟩, fun x => by show f1 x + g' x ≤ g x + f0 x; rw [h3]; have := k2 x; omega⟩
def popD (es : List D) (k : Int) : Option (List D) := if -(2 ^ 63) ≤ k ∧ k < 2 ^ 63 then (ixN es.length k).map fun j => es.eraseIdx j else none
def sPopAt (i : Nat) (mi : MZ) : MS := fun τ => match τ.getD i none with
  | some (.lst true es) => (match mi τ with
    | some (.int k) => (match popD es k with
      | some es' => .nx (τ.set i (some (.lst true es')))
      | none => .bad)
    | _ => .bad)
  | _ => .bad
theorem pa_one {e : Expr} {te : TE} (he : PE X e te) (hs : starEach [e] X.env = (false, eval e X.env) :: starEach [] X.env := by rfl) : PA X [e] (tCons te tNil) := pa_cons he pa_nil hs
theorem s_popAt {i : Nat} {o e : Expr} {apos cpos pos : Pos} {mi : MZ} (ho : PE X o (tVar i)) (hi : PE X e (rdZ X.K B mi))
    (hs : starEach [e] X.env = (false, eval e X.env) :: starEach [] X.env := by rfl)
    (hbase : attributeBase o "pop" X.env (eval o X.env) = eval o X.env := by rfl)
    (hfew : ((backTo cpos (starEach [e] X.env)).all (fun x => !x.1) && (backToKw cpos (keywordEach [] X.env)).all (fun x => x.1.isSome)
      && decide ([e].length + ([] : List Keyword).length + (if ([] : List Keyword).isEmpty then 0 else 1) < 30)) = true := by rfl)
    (hline : (apos.endLine == cpos.line) = true := by rfl) (hplain : (backTo cpos (starEach [] X.env)).any (·.1) = false := by rfl)
    (hsw : swapsWith (.Call (.Attribute o "pop" apos) [e] [] cpos) none pos.line X.env = pure false := by rfl) : PS X (.Expr (.Call (.Attribute o "pop" apos) [e] [] cpos) pos) (rdS X.K B W (sPopAt i mi)) :=
  PS.imp (ps_expr (pe_bm PySem.F.plainAttrs_list PySem.F.slot_list_pop PySem.F.type_list_pop mt_popAt ho (pa_cons hi pa_nil hs) hbase hfew hline hs hplain) hsw) fun D σ H ⟨F, τ, vs, ds, s, p⟩ => by
    unfold sPopAt at p
    split at p
    · rename_i es e0
      have e0' := getD_some e0
      split at p
      · rename_i k e2
        cases e3 : popD es k with
        | none => rw [e3] at p; exact p.elim
        | some es' =>
          rw [e3] at p
          replace p : postS X.K B W vs ds D (SR.nx (τ.set i (some (.lst true es')))) := p
          unfold popD at e3
          by_cases hk : -(2 ^ 63) ≤ k ∧ k < 2 ^ 63
          · rw [if_pos hk] at e3
            cases e4 : ixN es.length k with
            | none => rw [e4] at e3; cases e3
            | some j =>
              rw [e4] at e3
              replace e3 : es.eraseIdx j = es' := Option.some.inj e3
              obtain ⟨v, k1, s2⟩ := s.take e0'
              obtain ⟨f, a, us, g, rfl, hx, hg, _⟩ := s2.top
              obtain ⟨i1, i2, _⟩ := ixN_seq e4
              refine ⟨.ref a, k1, .inl ⟨rfl, us, sqOf hx⟩, F, τ, vs, ds, s, .int k, e2, fun w fw hw => ?_⟩
              obtain rfl : w = V.int k := hw.1
              refine ⟨a, us, k, j, us[j]'(by rw [hg.length]; exact i2), rfl, rfl, hx, hk.1, hk.2, by rw [hg.length]; exact i1, by simp, ?_⟩
              have s3 := StT.change (us := []) (ds := []) (ys := us.eraseIdx j) (es2 := es.eraseIdx j) s2 rfl hx fun g1 g2 r1 r2 => by
                obtain ⟨g, q1, q2⟩ := RepOs.eraseI j r1
                exact ⟨g, q1, fun b => by have := q2 b; omega⟩
              have s4 := s3.putBack (i := i) (by rw [List.length_set]; exact (List.getElem?_eq_some_iff.mp e0').1) k1
              rw [List.set_set, e3] at s4
              exact p σ F _ s4
          · rw [if_neg hk] at e3; cases e3
      · exact p.elim
    · exact p.elim
def sIns (i : Nat) (mi : MZ) (m : ME) : MS := fun τ => match τ.getD i none, mi τ with
  | some (.lst true _), some (.int k) => (m τ).s fun d τ1 => (match τ1.getD i none with
    | some (.lst true es) => if es.length < 1000000 ∧ 0 ≤ k ∧ k < 2 ^ 63 then .nx (τ1.set i (some (.lst true (es.take k.toNat ++ [d] ++ es.drop k.toNat)))) else .bad
    | _ => .bad)
  | _, _ => .bad
theorem s_ins {i : Nat} {o e0 e : Expr} {apos cpos pos : Pos} {mi : MZ} {m : ME} (ho : PE X o (tVar i)) (hi : PE X e0 (rdZ X.K B mi)) (he : PE X e (rdE X.K B W m))
    (hbase : attributeBase o "insert" X.env (eval o X.env) = eval o X.env := by rfl)
    (hfew : ((backTo cpos (starEach [e0, e] X.env)).all (fun x => !x.1) && (backToKw cpos (keywordEach [] X.env)).all (fun x => x.1.isSome)
      && decide ([e0, e].length + ([] : List Keyword).length + (if ([] : List Keyword).isEmpty then 0 else 1) < 30)) = true := by rfl)
    (hline : (apos.endLine == cpos.line) = true := by rfl) (hs0 : starEach [e0, e] X.env = (false, eval e0 X.env) :: starEach [e] X.env := by rfl) (hs : starEach [e] X.env = (false, eval e X.env) :: starEach [] X.env := by rfl)
    (hplain : (backTo cpos (starEach [e] X.env)).any (·.1) = false := by rfl)
    (hsw : swapsWith (.Call (.Attribute o "insert" apos) [e0, e] [] cpos) none pos.line X.env = pure false := by rfl) : PS X (.Expr (.Call (.Attribute o "insert" apos) [e0, e] [] cpos) pos) (rdS X.K B W (sIns i mi m)) :=
  PS.imp (ps_expr (pe_bm PySem.F.plainAttrs_list PySem.F.slot_list_insert PySem.F.type_list_insert mt_insert ho (pa_cons hi (pa_cons he pa_nil hs) hs0) hbase hfew hline hs0 hplain) hsw) fun D σ H ⟨F, τ, vs, ds, s, p⟩ => by
    unfold sIns at p
    split at p
    · rename_i es0 k e0 e2
      obtain ⟨v, f, h1, a, us, g, rfl, h2, _⟩ := s.get (getD_some e0)
      refine ⟨.ref a, h1, .inl ⟨rfl, us, sqOf h2⟩, F, τ, vs, ds, s, .int k, e2, fun w fw hw => ?_⟩
      obtain rfl : w = V.int k := hw.1
      refine ⟨F, τ, vs, ds, s, post_imp (post_s (σ := σ) p) (fun d τ1 q y F1 H1 s1 => ?_) fun _ _ q => q⟩
      split at q
      · rename_i es e1
        have e1' := getD_some e1
        obtain ⟨v, k1, s2⟩ := s1.take e1'
        rw [h1] at k1
        cases k1
        by_cases hl : es.length < 1000000 ∧ 0 ≤ k ∧ k < 2 ^ 63
        · rw [if_pos hl] at q
          obtain ⟨f, a', us', g, ea, hx, hg, _⟩ := s2.top
          cases ea
          refine ⟨a, us', k, y, rfl, rfl, hx, by rw [hg.length, sizeLine_eq]; omega, hl.2.1, hl.2.2, ?_⟩
          have s3 := s2.change (us := [y]) (ds := [d]) (ys := us'.take k.toNat ++ [y] ++ us'.drop k.toNat) (es2 := es.take k.toNat ++ [d] ++ es.drop k.toNat) rfl hx fun g1 g2 r1 r2 => by
            obtain ⟨_, r, f1, f2, ey, q1, q2, q3⟩ := r2
            cases ey
            obtain ⟨g, y1, y2⟩ := RepOs.insI q1 k.toNat r1
            exact ⟨g, y1, fun b => by have := y2 b; have := q3 b; have := q2.2 b; omega⟩
          have s4 := s3.putBack (i := i) (by rw [List.length_set]; exact (List.getElem?_eq_some_iff.mp e1').1) h1
          rw [List.set_set] at s4
          exact q σ F1 _ s4
        · rw [if_neg hl] at q; exact q.elim
      · exact q.elim
    · exact p.elim
end
end Bn

/-! range(i, j, -1) -/
namespace Bn
open PySem PySem.Spec PyProof.Rows L2
def rangeN (lo : Int) (n : Nat) : List D := (List.range n).map fun k => D.int (lo + (k : Nat) * (-1))
theorem itOk_rangeN {B : Bx} {K : PySem.W.Frag} {lo : Int} {n : Nat} {vs : List V} {ds : List D} : ItOk K B (Itc lo (-1) n) (rangeN lo n) vs ds := by
  refine ⟨fun i F H σ τ s hi => ?_, fun F H σ τ s => ?_, fun i d F H σ τ x H' us' es' hl hd s y => ?_⟩
  · show i < n; simpa [rangeN] using hi
  · show n ≤ (rangeN lo n).length; simp [rangeN]
  · obtain ⟨rfl, rfl⟩ := y
    have hi : i < n := by simpa [rangeN] using (List.getElem?_eq_some_iff.mp hd).1
    have e : d = .int (lo + (i : Nat) * (-1)) := by
      unfold rangeN at hd
      rw [List.getElem?_map, List.getElem?_range hi] at hd
      exact (Option.some.inj hd).symm
    subst e
    exact ⟨F, s.push (d := .int _) rfl⟩
def iR3 (m : MA) : MA := fun τ => (m τ).bind fun ds τ1 => match ds with
  | [.int i, .int j, .int c] => if c = -1 ∧ -(2 ^ 62) ≤ i ∧ i < 2 ^ 62 ∧ -(2 ^ 62) ≤ j ∧ j < 2 ^ 62 then .ok (rangeN i (i - j).toNat) τ1 else .bad
  | _ => .bad
theorem i_range3 {X : Cx} {B : Bx} {W : WX} {tg a b c : Expr} {p pos : Pos} {m : MA} (hg : Gl X "range") (hm : X.mg "range" = none) (ha : PA X [a, b, c] (rdA X.K B W m)) (hs : starEach [a, b, c] X.env = (false, eval a X.env) :: starEach [b, c] X.env := by rfl) (hpl : (backTo pos (starEach [b, c] X.env)).any (·.1) = false := by rfl) :
    PI X tg (.Call (.Name "range" p) [a, b, c] [] pos) (rdI X.K B W (iR3 m)) := PI.imp (pi_range3 hg hm ha hs hpl) fun σ H R ⟨F, τ, vs, ds, s, p⟩ => by
  refine ⟨F, τ, vs, ds, s, post_imp (post_bind p) (fun es τ1 q us F1 H1 hl s1 => ?_) fun _ _ q => q⟩
  have g := s1.pops hl
  match es, q, s1, hl with
  | [.int i, .int j, .int c], q, s1, hl =>
    match us, s1, hl with
    | [u, v, t], s1, _ =>
      cases (show u = .int i from s1.topF rfl)
      cases (show v = .int j from s1.pop.topF rfl)
      cases (show t = .int c from s1.pop.pop.topF rfl)
      by_cases z : c = -1 ∧ -(2 ^ 62) ≤ i ∧ i < 2 ^ 62 ∧ -(2 ^ 62) ≤ j ∧ j < 2 ^ 62
      · simp only [z, and_self, if_true] at q
        obtain ⟨rfl, z1, z2, z3, z4⟩ := z
        exact ⟨i, j, -1, _, rfl, RgC.neg z1 z2 z3 z4, q (Itc i (-1) (i - j).toNat) [] [] F1 H1 rfl g itOk_rangeN⟩
      · simp only [z, if_false] at q; exact False.elim q
/-! ### a slice of a list that its name keeps -/
section
variable {X : Cx} {B : Bx} {W : WX}
theorem RepOs.allF {K : PySem.W.Frag} {ca : Str → Addr} {F H : Hp} : ∀ {es : List D} {us : List V} {g : Ct}, es.all isFz = true → RepOs K ca F H es us g → RepL K ca F es us
  | [], us, _, _, h => h.1
  | x :: es, _, _, hz, ⟨v, r, f1, f2, e, h1, h2, _⟩ => by
    rw [List.all_cons, Bool.and_eq_true] at hz
    exact ⟨v, r, e, ((repO_fz hz.1).mp h1).1, RepOs.allF hz.2 h2⟩
def skQ (rr : R (Option Int)) (es : List D) (lo : Option Int) (i : Nat) : R D := match rr with
  | .ok hi τ2 => .ok (.lst true (cutL es lo hi)) (τ2.set i (some (.lst true es)))
  | _ => .bad
def skP (rp : R (Option Int)) (es : List D) (i : Nat) (r : Env → R (Option Int)) : R D := match rp with
  | .ok lo τ1 => skQ (r τ1) es lo i
  | _ => .bad
def skD (o : Option D) (i : Nat) (p r : Env → R (Option Int)) (τ : Env) : R D := match o with
  | some (.lst true es) => if es.all isFz = true then skP (p (τ.set i none)) es i r else .bad
  | _ => .bad
def eSliceK (i : Nat) (p r : Env → R (Option Int)) : ME := fun τ => skD (τ.getD i none) i p r τ
theorem e_sliceK {i : Nat} {e : Expr} {lo hi : Option Expr} {p2 pos : Pos} {p r : Env → R (Option Int)} (he : PE X e (tVar i)) (hl : PO X lo (rdP X.K B W p)) (hu : PO X hi (rdP X.K B W r)) : PE X (.Subscript e (.Slice lo hi none p2) pos) (rdE X.K B W (eSliceK i p r)) :=
  PE.imp (pe_slice sl_list he hl hu) fun σ H Q ⟨F, τ, vs, ds, s, k⟩ => by
    unfold eSliceK skD at k
    cases e0 : τ.getD i none with
    | none => rw [e0] at k; exact k.elim
    | some d0 =>
      rw [e0] at k
      cases d0 with
      | lst mm es =>
        cases mm with
        | false => exact k.elim
        | true =>
          replace k : post _ _ (if es.all isFz = true then skP (p (τ.set i none)) es i r else R.bad) := k
          by_cases z : es.all isFz = true
          · rw [if_pos z] at k
            obtain ⟨v, h1, s1⟩ := s.take (getD_some e0)
            refine ⟨v, h1, F, τ.set i none, _, _, s1, ?_⟩
            unfold skP at k
            cases ep : p (τ.set i none) with
            | ok l τ1 =>
              rw [ep] at k
              intro F1 H1 s2
              refine ⟨F1, τ1, _, _, s2, ?_⟩
              replace k : post _ _ (skQ (r τ1) es l i) := k
              unfold skQ at k
              cases er : r τ1 with
              | ok h τ2 =>
                rw [er] at k
                intro F2 H2 s3
                obtain ⟨f, a, us, g, ev, q1, q2, _⟩ := s3.top
                subst ev
                have q3 := RepOs.allF z q2
                replace k : ∀ (v : V) (F' H' : Hp), StT X.K B F' H' σ (τ2.set i (some (.lst true es))) (v :: vs) (.lst true (cutL es l h) :: ds) → Q v H' := k
                refine ⟨a, us, rfl, sqOf q1, fun np hnp => ?_⟩
                have s4 := (s3.pushL (q3.cut l h)).newLst (q3.cut l h).length hnp
                have s5 := StT.swap (us := [.ref np]) (es := [.lst true (cutL es l h)]) s4 rfl
                exact k _ _ _ (s5.putBack (by rw [← s3.len]; exact (List.getElem?_eq_some_iff.mp h1).1) h1)
              | _ => rw [er] at k; exact k.elim
            | _ => rw [ep] at k; exact k.elim
          · rw [if_neg z] at k; exact k.elim
      | _ => exact k.elim
/-! ### list(xs) of a list that its name keeps -/
def lkR (o : Option D) (τ : Env) : R D := match o with
  | some (.lst true es) => if es.all isFz = true then .ok (.lst true es) τ else .bad
  | _ => .bad
def eLstK (i : Nat) : ME := fun τ => lkR (τ.getD i none) τ
theorem e_lstK {i : Nat} {x : Str} {p pos : Pos} {e : Expr} (hg : Gl X x) (hm : X.mg x = none) (hv : bootBuiltins x = some (.type "list")) (hi : PE X e (tVar i)) (hn : x ≠ "__name__" := by decide) (hdb : (x == ("__debug__" : Str)) = false := by decide)
    (he : starEach [e] X.env = (false, eval e X.env) :: starEach [] X.env := by rfl) (hpl : (backTo pos (starEach [] X.env)).any (·.1) = false := by rfl) : PE X (.Call (.Name x p) [e] [] pos) (rdE X.K B W (eLstK i)) := PE.imp (pe_callTy call_list_of hg hm hv (pa_cons hi pa_nil he) hn hdb he hpl) fun σ H Q ⟨F, τ, vs, ds, s, k⟩ => by
  unfold eLstK lkR at k
  cases e0 : τ.getD i none with
  | none => rw [e0] at k; exact k.elim
  | some d0 =>
    rw [e0] at k
    cases d0 with
    | lst mm es =>
      cases mm with
      | false => exact k.elim
      | true =>
        replace k : post _ _ (if es.all isFz = true then R.ok (D.lst true es) τ else R.bad) := k
        by_cases z : es.all isFz = true
        · rw [if_pos z] at k
          replace k : ∀ (v : V) (F' H' : Hp), StT X.K B F' H' σ τ (v :: vs) (.lst true es :: ds) → Q v H' := k
          obtain ⟨v, h1, s1⟩ := s.take (getD_some e0)
          obtain ⟨f, a, us, g, ev, q1, q2, _⟩ := s1.top
          subst ev
          have q3 := RepOs.allF z q2
          refine ⟨_, h1, a, us, rfl, .inl (sqOf q1), fun np hnp => ?_⟩
          have s4 := (s1.pushL q3).newLst q3.length hnp
          have s5 := StT.swap (us := [.ref np]) (es := [.lst true es]) s4 rfl
          have s6 := s5.putBack (i := i) (by rw [List.length_set, ← s.len]; exact (List.getElem?_eq_some_iff.mp h1).1) h1
          have e1 : (τ.set i none).set i (some (.lst true es)) = τ := by
            rw [List.set_set]
            have := getD_some e0
            exact List.ext_getElem? fun j => by
              rw [List.getElem?_set]
              split
              · rename_i z; subst z
                split
                · exact this.symm
                · rename_i z; rw [List.getElem?_eq_none (by omega)]
              · rfl
          rw [e1] at s6
          exact k _ _ _ s6
        · rw [if_neg z] at k; exact k.elim
    | _ => exact k.elim
/-! ### a call whose first argument is a list that its name keeps -/
theorem lend_sp2 {g : List D → CR} {F H : Hp} {σ : L2.St} {τ : Env} {vs us : List V} {ds es : List D} {f : Ct} {Q : VK} (s : StT X.K B F H σ τ vs ds) (r : RepOs X.K B.ca F H es us f) {po : List D} {pov : List V} (hp : RepL X.K B.ca F po pov)
    (p : post (fun d τ' => ∀ v F' H', StT X.K B F' H' σ τ' (v :: vs) (d :: ds) → Q v H') (exW X.K B W σ vs ds) (lendR (g (freezeL es ++ po)) τ)) : spP X.K B.ca g (us ++ pov) H Q (W · · σ ·) := by
  refine ⟨lend F H f, freezeL es ++ po, lend_sub s.same f, (lend_rep s r).append (RepL.mono (lend_same F H f) _ _ hp), ?_⟩
  unfold lendR at p
  cases eg : g (freezeL es ++ po) with
  | ok d =>
    rw [eg] at p
    replace p : post _ _ (if clean d = true then R.ok d τ else R.bad) := p
    by_cases z : clean d = true
    · rw [if_pos z] at p
      intro v F' H' f' k1 k2 k3 k4 k5 k6 k7
      obtain ⟨F2, s2⟩ := s.lent r k1 k2 k3 k4 k5 k6 k7 z
      exact p v F2 H' s2
    · rw [if_neg z] at p; exact p.elim
  | ex c => rw [eg] at p; exact fun H' k1 => p F H' (s.grown k1)
  | bad => rw [eg] at p; exact p
def ckR (g : List D → CR) (o : Option D) (es : List D) (τ : Env) : R D := match o with
  | some d => lendR (g (freezeL [d] ++ freezeL es)) τ
  | none => .bad
def eCallK (g : List D → CR) (i : Nat) (m : MA) : ME := fun τ => if (τ.getD i none).isSome = true then (m τ).bind fun es τ1 => ckR g (τ1.getD i none) es τ1 else .bad
theorem e_callK {x : Str} {p pos : Pos} {e : Expr} {es : List Expr} {m : MA} {g : List D → CR} {k j i : Nat} (c : XOk X W) (G : Fo X.prog X.w X.K X.mg X.base B.ca k x g) (hr : Room j X.A) (hg : Gl X x) (hi : PE X e (tVar i)) (ha : PA X es (rdA X.K B W m)) (hk : k ≤ j := by decide) (hdb : (x == ("__debug__" : Str)) = false := by decide)
    (he : starEach (e :: es) X.env = (false, eval e X.env) :: starEach es X.env := by rfl) (hpl : (backTo pos (starEach es X.env)).any (·.1) = false := by rfl) : PE X (.Call (.Name x p) (e :: es) [] pos) (rdE X.K B W (eCallK g i m)) := by
  obtain ⟨f, fd, ps, h1, h2, h3, h4⟩ := G.ex
  refine PE.imp (pe_callS h4 (hr.mono hk) hg h1 h2 h3 (fun σ => passAt c.tk σ) (pa_cons hi ha he) hdb he hpl) fun σ H Q h => ?_
  obtain ⟨F, τ, vs, ds, s, q⟩ := h
  unfold eCallK at q
  by_cases z : (τ.getD i none).isSome = true
  · rw [if_pos z] at q
    obtain ⟨d0, e0⟩ := Option.isSome_iff_exists.mp z
    obtain ⟨v, f0, k1, _⟩ := s.get (getD_some e0)
    refine ⟨v, k1, F, τ, vs, ds, s, post_imp (post_bind q) (fun as τ1 q us F1 H1 hl s1 => ?_) fun _ _ q => q⟩
    obtain ⟨F2, sm, rl, s2⟩ := s1.freeze hl
    unfold ckR at q
    cases e1 : τ1.getD i none with
    | none => rw [e1] at q; exact q.elim
    | some d =>
      rw [e1] at q
      obtain ⟨v', f1, k2, k3⟩ := s2.get (getD_some e1)
      have : v' = v := by rw [k1] at k2; cases k2; rfl
      subst this
      exact lend_sp2 s2 (es := [d]) (us := [v']) (f := f1) ⟨v', [], f1, fun _ => 0, rfl, k3, ⟨rfl, fun _ => rfl⟩, fun _ => rfl⟩ rl q
  · rw [if_neg z] at q; exact q.elim
end
end Bn

/-! defs that call themselves; int(..) of truths; tuple(xs). -/
namespace Bn
open PySem PySem.Spec PyProof.Rows L2
section
variable {P : Program} {w : World} {K : PySem.W.Frag} {mg : Str → Option Value} {base : Heap} {ca : Str → Addr}
theorem fo_bad {x qual : Str} {st : Stmt} {f : Addr} {fd : FuncData} {ps : List Str} {k : Nat} (F : Fun K x qual st f fd) (hm : mg x = some (.ref f)) (hb : Binds K fd ps []) : Fo P w K mg base ca k x (fun _ => .bad) :=
  ⟨f, fd, ps, hm, F.kp, hb, ⟨fun vs H Q E h => by obtain ⟨_, _, _, _, z⟩ := h; exact z.elim, fun A outer s H args us vs Q E _ _ _ _ h => by obtain ⟨_, _, _, _, z⟩ := h; exact z.elim⟩⟩
theorem Fo.at {x : Str} {g : List D → CR} {k j : Nat} (F : Fo P w K mg base ca k x g) (h : k = j) : Fo P w K mg base ca j x g := h ▸ F
end
def gInt : List D → Option D
  | [.int i] => some (.int i)
  | [.bl b] => some (.int (if b then 1 else 0))
  | _ => none
theorem sInt {K : PySem.W.Frag} : CallS K (fun xs H Q => (∃ i, xs = [.int i] ∧ Q (.int i) H) ∨ ∃ k, xs = [.bl k] ∧ Q (.int (if k then 1 else 0)) H) gInt := by
  intro ca F H xs as d f1 Q sm hx e q
  match as, e, hx with
  | [.int i], e, hx =>
    obtain ⟨v, r, g1, g2, rfl, h1, h2, _⟩ := hx
    cases (show r = [] from h2.1)
    cases (show some (D.int i) = some d from e)
    cases (show v = .int i from h1.1)
    exact .inl ⟨i, rfl, q (.int i) _ (Rep.o (d := .int i) rfl)⟩
  | [.bl b], e, hx =>
    obtain ⟨v, r, g1, g2, rfl, h1, h2, _⟩ := hx
    cases (show r = [] from h2.1)
    cases (show some (D.int (if b then 1 else 0)) = some d from e)
    cases (show v = .bl b from h1.1)
    exact .inr ⟨b, rfl, q (.int (if b then 1 else 0)) _ (Rep.o (d := .int (if b then 1 else 0)) rfl)⟩
/-- str(i) -/
def gStrI : List D → Option D
  | [.int i] => if i.natAbs.log2 < 1920 then some (.str (toString i)) else none
  | _ => none
theorem sStrI {K : PySem.W.Frag} : CallS K (fun xs H Q => ∃ i, xs = [.int i] ∧ i.natAbs.log2 < 1920 ∧ Q (.str (toString i)) H) gStrI := by
  intro ca F H xs as d f1 Q sm hx e q
  match as, e, hx with
  | [.int i], e, hx =>
    obtain ⟨v, r, g1, g2, rfl, h1, h2, _⟩ := hx
    cases (show r = [] from h2.1)
    by_cases c : i.natAbs.log2 < 1920
    · have e' : (if i.natAbs.log2 < 1920 then some (D.str (toString i)) else none) = some d := e
      rw [if_pos c] at e'
      cases e'
      cases (show v = .int i from h1.1)
      exact ⟨i, rfl, c, q (.str (toString i)) _ (Rep.o (d := .str (toString i)) rfl)⟩
    · have e' : (if i.natAbs.log2 < 1920 then some (D.str (toString i)) else none) = some d := e
      rw [if_neg c] at e'
      cases e'
/-- tuple(xs) -/
def eTupOf (m : MA) : ME := fun τ => (m τ).bind fun ds τ1 => match freezeL ds with
  | [.lst _ es] => .ok (.tup es) τ1
  | [.tup es] => .ok (.tup es) τ1
  | _ => .bad
theorem e_tupOf {X : Cx} {B : Bx} {W : WX} {x : Str} {p pos : Pos} {e : Expr} {m : MA} (hg : Gl X x) (hm : X.mg x = none) (hv : bootBuiltins x = some (.type "tuple")) (ha : PA X [e] (rdA X.K B W m)) (hn : x ≠ "__name__" := by decide) (hdb : (x == ("__debug__" : Str)) = false := by decide)
    (he : starEach [e] X.env = (false, eval e X.env) :: starEach [] X.env := by rfl) (hpl : (backTo pos (starEach [] X.env)).any (·.1) = false := by rfl) : PE X (.Call (.Name x p) [e] [] pos) (rdE X.K B W (eTupOf m)) := PE.imp (pe_callTy call_tuple_of hg hm hv ha hn hdb he hpl) fun σ H Q ⟨F, τ, vs, ds, s, p⟩ => by
  refine ⟨F, τ, vs, ds, s, post_imp (post_bind p) (fun es τ1 q us F1 H1 hl s1 => ?_) fun _ _ q => q⟩
  obtain ⟨F2, sm, rl, s2⟩ := s1.freeze hl
  match h : freezeL es, q, rl with
  | [.lst b xs], q, rl =>
    obtain ⟨v, r, rfl, r1, r2⟩ := rl
    cases (show r = [] from r2)
    cases b with
    | true => exact r1.elim
    | false =>
      obtain ⟨a, ws, rfl, h1, h2⟩ := r1
      exact ⟨a, ws, rfl, .inl ⟨sqOf (s2.same _ _ h1), fun l hl => q _ _ _ (s2.newTup hl h2)⟩⟩
  | [.tup xs], q, rl =>
    obtain ⟨v, r, rfl, r1, r2⟩ := rl
    cases (show r = [] from r2)
    exact (by
      have r1' := r1
      obtain ⟨a, ws, rfl, h1, h2⟩ := r1
      exact ⟨a, ws, rfl, .inr ⟨sqT_same s2.same h1, q _ _ _ (s2.push r1')⟩⟩)
end Bn
namespace Bn
open PySem PySem.Spec PyProof.Rows L2
/-! ### // by a number of either sign -/
def CDivX (i j : Int) : Prop := j ≠ 0 ∧ j.natAbs.log2 < 9000
instance {i j : Int} : Decidable (CDivX i j) := by unfold CDivX; infer_instance
theorem op_fdivX {X : Cx} : OpR X (binaryOp .FloorDiv) (rI CDivX fun i j => .int (i.fdiv j)) := opI fun i j _ _ _ _ _ hc q => floordiv_int hc.1 q (.inl (PyProof.noPylong_of_log2 hc.2))
def gDivX : D → D → Option D := gIC CDivX fun i j => .int (i.fdiv j)
theorem sDivX {K : PySem.W.Frag} : OpS K (rI CDivX fun i j => .int (i.fdiv j)) gDivX := opS_IC fun _ _ _ _ => rfl
theorem vDivX {i j : Int} (h : j ≠ 0) (h2 : j.natAbs.log2 < 9000) : gDivX (.int i) (.int j) = some (.int (i.fdiv j)) := if_pos ⟨h, h2⟩
end Bn
namespace Bn
open PySem PySem.Spec PyProof.Rows L2
/-- a value given up at once -/
def eFz (m : ME) : ME := fun τ => (m τ).bind fun d τ1 => .ok (freeze d) τ1
theorem e_fz {X : Cx} {B : Bx} {W : WX} {e : Expr} {m : ME} (h : PE X e (rdE X.K B W m)) : PE X e (rdE X.K B W (eFz m)) := PE.imp h fun σ H Q ⟨F, τ, vs, ds, s, p⟩ =>
  ⟨F, τ, vs, ds, s, post_imp (post_bind p) (fun d τ1 q v F1 H1 s1 => by
    obtain ⟨F', sm, ⟨_, _, e2, r, _⟩, s2⟩ := StT.freeze (us := [v]) (es := [d]) s1 rfl
    cases e2
    exact q v F' H1 (s2.push r)) fun _ _ q => q⟩
end Bn
namespace Bn
open PySem PySem.Spec PyProof.Rows L2
/-! ### a walk over a list of numbers that no one changes -/
section
variable {X : Cx} {B : Bx} {W : WX}
theorem itOk_cst {K : PySem.W.Frag} {a : Addr} {es : List D} {vs : List V} {ds : List D} : ItOk K B (Itl K a) es (.ref a :: vs) (.cst es :: ds) := by
  have look : ∀ {F H σ τ}, StT K B F H σ τ (.ref a :: vs) (.cst es :: ds) → ∃ us, SqL K H a us ∧ RepL K B.ca F es us := fun {F H σ τ} s => by
    obtain ⟨a', us, e, h1, h2⟩ := s.topF rfl
    cases e
    exact ⟨us, s.same.seq h1, h2⟩
  refine ⟨fun i F H σ τ s hi => ?_, fun F H σ τ s => ?_, fun i d F H σ τ x H' us' es' hl hd s y => ?_⟩
  · obtain ⟨us, h1, h2⟩ := look s
    exact ⟨us, us[i]'(by rw [h2.length]; exact hi), h1, by simp [h2.length, hi]⟩
  · obtain ⟨us, h1, h2⟩ := look s
    exact ⟨us, h1, by rw [h2.length]; exact Nat.le_refl _⟩
  · obtain ⟨rfl, y⟩ := y
    obtain ⟨us, h1, h2⟩ := look (s.pops hl)
    obtain ⟨v, e, r⟩ := h2.get hd
    rw [y us h1] at e; cases e
    exact ⟨F, s.push r⟩
def iK' (d : D) (τ : Env) : R (List D) := match d with
  | .cst es => .ok es τ
  | _ => .bad
def iK (m : ME) : MA := fun τ => (m τ).bind fun d τ1 => iK' d τ1
theorem i_cst {tg l : Expr} {m : ME} (hl : PE X l (rdE X.K B W m)) : PI X tg l (rdI X.K B W (iK m)) := PI.imp (pi_list hl) fun σ H R ⟨F, τ, vs, ds, s, p⟩ => by
  refine ⟨F, τ, vs, ds, s, post_imp (post_bind p) (fun d τ1 q v F1 H1 s1 => ?_) fun _ _ q => q⟩
  unfold iK' at q
  cases d with
  | cst es =>
    obtain ⟨a, us, ev, h1, h2⟩ := s1.topF rfl
    subst ev
    exact ⟨a, rfl, ⟨us, s1.same.seq h1⟩, q (Itl X.K a) [.ref a] [.cst es] F1 H1 rfl s1 itOk_cst⟩
  | _ => exact False.elim q
end
end Bn
namespace Bn
open PySem PySem.Spec PyProof.Rows L2
/-! ### a walk over a list that its name keeps -/
def Bx.io1 (B : Bx) (i : Nat) (v : V) : Bx := ⟨B.ca, B.F0, B.R, (i, v) :: B.io⟩
def fbR (i : Nat) (es : List D) (r : SR) : SR := match r with
  | .nx τ2 => .nx (τ2.set i (some (.lst true es)))
  | .rt d τ2 => .rt d τ2
  | .ex c τ2 => .ex c τ2
  | _ => .bad
def fbD (o : Option D) (i : Nat) (g : D → Env → Option Env) (b : MS) (τ : Env) : SR := match o with
  | some (.lst true es) => if es.all isFz = true then fbR i es (forL g b es (τ.set i none)) else .bad
  | _ => .bad
def sForB (i : Nat) (g : D → Env → Option Env) (b : MS) : MS := fun τ => fbD (τ.getD i none) i g b τ
section
variable {X : Cx} {B : Bx} {W : WX}
theorem StT.io1 {K : PySem.W.Frag} {F H : Hp} {σ : L2.St} {τ : Env} {vs : List V} {ds : List D} {i : Nat} {v : V} (s : StT K B F H σ τ vs ds) (h : σ[i]? = some (some v)) : StT K (B.io1 i v) F H σ τ vs ds := by
  obtain ⟨f1, f2, a, b, w, io⟩ := s
  exact ⟨f1, f2, a, b, ⟨w.nd, w.dF, w.dR, w.sF, w.sR, w.s0, w.fr⟩, fun p hp => by
    rcases List.mem_cons.mp hp with rfl | hp
    · exact h
    · exact io p hp⟩
theorem StT.io0 {K : PySem.W.Frag} {F H : Hp} {σ : L2.St} {τ : Env} {vs : List V} {ds : List D} {i : Nat} {v : V} (s : StT K (B.io1 i v) F H σ τ vs ds) : σ[i]? = some (some v) ∧ StT K B F H σ τ vs ds := by
  obtain ⟨f1, f2, a, b, w, io⟩ := s
  exact ⟨io (i, v) List.mem_cons_self, f1, f2, a, b, ⟨w.nd, w.dF, w.dR, w.sF, w.sR, w.s0, w.fr⟩, fun p hp => io p (List.mem_cons_of_mem _ hp)⟩
theorem s_forB {i : Nat} {tg it : Expr} {body : List Stmt} {pos : Pos} {sl : List Nat} {g : D → Env → Option Env} {b : MS} (c : XOk X W) (hi : PE X it (tVar i)) (hg : ∀ v, PG X tg (rdG X.K ⟨B.ca, B.F0, B.R, (i, v) :: B.io⟩ sl g)) (hb : ∀ v, PSs X body (rdS X.K ⟨B.ca, B.F0, B.R, (i, v) :: B.io⟩ W b))
    (hs : ∀ x, foldedSetIterable it X.env x = pure x := by intro _; rfl) : PS X (.For tg it body [] pos) (rdS X.K B W (sForB i g b)) := by
  have hg' : PG X tg (fun x σ H Q => ∃ v, rdG X.K (B.io1 i v) sl g x σ H Q) := ⟨fun p s σ H x u Q I r q => by
    obtain ⟨v, q⟩ := q
    exact (hg v).run p s σ H x u Q I r q⟩
  have hb' : PSs X body (fun D σ H => ∃ v, rdS X.K (B.io1 i v) W b D σ H) := ⟨fun p s σ H D I q => by
    obtain ⟨v, q⟩ := q
    exact (hb v).run p s σ H D I q⟩
  refine PS.imp (ps_for c.hp c.calm (pi_list hi) hg' hb' hs) fun D' σ H ⟨F, τ, vs, ds, s, p⟩ => ?_
  unfold sForB fbD at p
  cases e0 : τ.getD i none with
  | none => rw [e0] at p; exact p.elim
  | some d0 =>
    rw [e0] at p
    cases d0 with
    | lst mm es =>
      cases mm with
      | false => exact p.elim
      | true =>
        replace p : postS X.K B W vs ds D' (if es.all isFz = true then fbR i es (forL g b es (τ.set i none)) else .bad) := p
        by_cases z : es.all isFz = true
        · rw [if_pos z] at p
          obtain ⟨v, h1, s1⟩ := s.take (getD_some e0)
          obtain ⟨f, a, us, g', rfl, h2, _⟩ := s1.top
          refine ⟨.ref a, h1, a, rfl, ⟨us, sqOf h2⟩, ?_⟩
          have hil : i < τ.length := by rw [← s.len]; exact (List.getElem?_eq_some_iff.mp h1).1
          have p' : postS X.K (B.io1 i (.ref a)) W (.ref a :: vs) (.lst true es :: ds) D' (forL g b es (τ.set i none)) := by
            cases e : forL g b es (τ.set i none) with
            | nx τ2 =>
              rw [e] at p
              intro σ2 F2 H2 s2
              obtain ⟨q1, q2⟩ := s2.io0
              have hl := q2.len
              exact p σ2 F2 H2 (q2.putBack (by rw [← hl]; exact (List.getElem?_eq_some_iff.mp q1).1) q1)
            | rt d2 τ2 =>
              rw [e] at p
              intro v2 σ2 F2 H2 s2
              exact p v2 σ2 F2 H2 (StT.under (us := [.ref a]) (es := [.lst true es]) s2.io0.2 rfl)
            | ex c2 τ2 =>
              rw [e] at p
              intro σ2 F2 H2 s2
              exact p σ2 F2 H2 s2.io0.2.pop
            | bk τ2 => rw [e] at p; exact p.elim
            | ct τ2 => rw [e] at p; exact p.elim
            | bad => rw [e] at p; exact p.elim
          obtain ⟨W', ⟨m, w0⟩, hW⟩ := for_core (B := B.io1 i (.ref a)) (W := W) (sl := sl) (itOk_own z) (s1.io1 h1) p'
          refine ⟨W', ⟨m, w0⟩, fun j m σ H hw => ?_⟩
          rcases hW j m σ H hw with h | ⟨h3, N, h4, h5⟩
          · exact .inl h
          · refine .inr ⟨h3, N, h4, fun x H' y => ⟨.ref a, ?_⟩⟩
            obtain ⟨F9, τ9, vs9, ds9, d9, s9, τ8, e9, k9⟩ := h5 x H' y
            exact ⟨F9, τ9, vs9, ds9, d9, s9, τ8, e9, fun σ2 F2 H2 s2 l2 l3 => ⟨.ref a, k9 σ2 F2 H2 s2 l2 l3⟩⟩
        · rw [if_neg z] at p; exact p.elim
    | _ => exact p.elim
end
end Bn
namespace Bn
open PySem PySem.Spec PyProof.Rows L2
section
variable {X : Cx} {B : Bx} {W : WX}
/-- a list's truth: whether it has an element -/
def tL (m : MZ) : MT := fun τ => match m τ with
  | some (.lst _ es) => .ok (!es.isEmpty) τ
  | _ => .bad
theorem t_lstZ {e : Expr} {m : MZ} (h : PE X e (rdZ X.K B m)) (he : ∀ whole, isTrue e X.env whole = (do let v ← whole; standAt e.pos; holding [v] (truthy v)) := by intro _; rfl) : PT X e (rdT X.K B W (tL m)) := PT.imp (pt_truth h he) fun σ H Q ⟨F, τ, vs, ds, s, p⟩ => by
  unfold tL at p
  cases e0 : m τ with
  | none => rw [e0] at p; exact False.elim p
  | some d =>
    rw [e0] at p
    cases d with
    | lst b es =>
      refine ⟨F, τ, vs, ds, s, _, e0, fun v f r => ?_⟩
      obtain ⟨q, us, g', rfl, h1, h2⟩ := seq_of s.same r (xs := es) rfl
      have hl := h2.length
      have ee : (!es.isEmpty) = !us.isEmpty := by
        cases es <;> cases us <;> simp_all
      refine ⟨!es.isEmpty, ?_, p F H s⟩
      rcases h1 with h1 | h1
      · exact .inl ⟨us, h1, ee⟩
      · exact .inr (.inl ⟨us, h1, ee⟩)
    | _ => exact False.elim p
end
theorem x_tL1 {m : MZ} {τ : Env} {b : Bool} {ds : List D} (h : m τ = some (.lst b ds)) : tL m τ = .ok (!ds.isEmpty) τ := by unfold tL; rw [h]
end Bn
namespace Bn
open PySem PySem.Spec PyProof.Rows L2
section
variable {X : Cx} {B : Bx} {W : WX}
/-- the test of a comprehension may call: its own context is calm, too -/
theorem lcT {scope : Scope} {ifs : List Expr} {T : TT} {s : Shared} {H : Hp} {C : Addr} {cl : List (Str × Addr)} {fp : List Addr} (c : XOk X W) (k : XOk (X.blk s H scope (compEnvC scope cl C X.env) fp) W0 → PTs (X.blk s H scope (compEnvC scope cl C X.env) fp) ifs T) : PTs (X.blk s H scope (compEnvC scope cl C X.env) fp) ifs T := k ⟨takes0, PassesOwn.never, c.calm⟩
end
end Bn

/-! Objects that change: attributes that are owned lists; methods that change their object. -/
namespace Bn
open PySem PySem.Spec PyProof.Rows L2
/-! ### one attribute taken out and put back -/
def putL (f : Str) (e : D) : List Str → List D → List D
  | n :: ns, x :: xs => if f = n then e :: xs else x :: putL f e ns xs
  | _, xs => xs
section
variable {K : PySem.W.Frag} {ca : Str → Addr} {F H : Hp} {f : Str}
theorem fld_out {d : D} : ∀ {ns : List Str} {xs : List D} {vs : List V} {g : Ct}, RepOs K ca F H xs vs g → lookD f ns xs = some d → ∃ w g1 g2, (ns.zip vs).lookup f = some w ∧ RepO K ca F H d w g1 ∧ RepOs K ca F H (putL f (.val w) ns xs) vs g2 ∧ ∀ b, g b = g1 b + g2 b
  | [], _, _, _, _, e => by cases e
  | _ :: _, [], _, _, _, e => by cases e
  | n :: ns, x :: xs, _, g, ⟨v, r, f1, f2, rfl, h1, h2, h3⟩, e => by
    have e : (if f = n then some x else lookD f ns xs) = some d := e
    show ∃ w g1 g2, ((n, v) :: ns.zip r).lookup f = some w ∧ _ ∧ RepOs K ca F H (if f = n then .val w :: xs else x :: putL f (.val w) ns xs) (v :: r) g2 ∧ _
    rw [List.lookup_cons]
    by_cases q : f = n
    · rw [if_pos q] at e
      cases e
      have q' : (f == n) = true := by simpa using q
      simp only [q', if_pos q]
      exact ⟨v, f1, f2, rfl, h1, ⟨v, r, fun _ => 0, f2, rfl, ⟨rfl, fun _ => rfl⟩, h2, fun b => by show f2 b = 0 + f2 b; omega⟩, h3⟩
    · rw [if_neg q] at e
      have q' : (f == n) = false := by simpa using q
      obtain ⟨w, g1, g2, k1, k2, k3, k4⟩ := fld_out h2 e
      simp only [q', if_neg q]
      exact ⟨w, g1, fun b => f1 b + g2 b, k1, k2, ⟨v, r, f1, g2, rfl, h1, k3, fun _ => rfl⟩, fun b => by show g b = g1 b + (f1 b + g2 b); rw [h3, k4]; omega⟩
theorem fld_in {d e : D} {w : V} : ∀ {ns : List Str} {xs : List D} {vs : List V} {g1 g2 : Ct}, lookD f ns xs = some d → RepOs K ca F H (putL f (.val w) ns xs) vs g2 → RepO K ca F H e w g1 → ∃ g, RepOs K ca F H (putL f e ns xs) vs g ∧ ∀ b, g b = g1 b + g2 b
  | [], _, _, _, _, l, _, _ => by cases l
  | _ :: _, [], _, _, _, l, _, _ => by cases l
  | n :: ns, x :: xs, vs, g1, g2, l, h, k => by
    have l : (if f = n then some x else lookD f ns xs) = some d := l
    replace h : RepOs K ca F H (if f = n then .val w :: xs else x :: putL f (.val w) ns xs) vs g2 := h
    show ∃ g, RepOs K ca F H (if f = n then e :: xs else x :: putL f e ns xs) vs g ∧ _
    by_cases q : f = n
    · rw [if_pos q] at h ⊢
      obtain ⟨v, r, f1, f2, rfl, ⟨h1, h1'⟩, h2, h3⟩ := h
      have h1 : v = w := h1
      subst h1
      exact ⟨fun b => g1 b + f2 b, ⟨v, r, g1, f2, rfl, k, h2, fun _ => rfl⟩, fun b => by show g1 b + f2 b = g1 b + g2 b; rw [h3, h1']; omega⟩
    · rw [if_neg q] at h l ⊢
      obtain ⟨v, r, f1, f2, rfl, h1, h2, h3⟩ := h
      obtain ⟨g, k1, k2⟩ := fld_in l h2 k
      exact ⟨fun b => f1 b + g b, ⟨v, r, f1, g, rfl, h1, k1, fun _ => rfl⟩, fun b => by show f1 b + g b = g1 b + g2 b; rw [h3, k2]; omega⟩
theorem putL_len (f : Str) (e : D) : ∀ (ns : List Str) (xs : List D), (putL f e ns xs).length = xs.length
  | [], xs => by cases xs <;> rfl
  | _ :: _, [] => rfl
  | n :: ns, x :: xs => by
    show (if f = n then e :: xs else x :: putL f e ns xs).length = _
    by_cases q : f = n
    · rw [if_pos q]; rfl
    · rw [if_neg q, List.length_cons, putL_len f e ns xs]; rfl
end
section
variable {K : PySem.W.Frag} {B : Bx} {F H : Hp} {σ : L2.St} {τ : Env} {vs us : List V} {ds es : List D} {v : V} {d : D}
/-- the attribute f of the object in slot i comes on top, the object below it -/
theorem StT.fieldOut {i : Nat} {c f : Str} {ns : List Str} {xs : List D} (s : StT K B F H σ τ vs ds) (e : τ[i]? = some (some (.obj true c ns xs))) (l : lookD f ns xs = some d) :
    ∃ (a dx : Addr) (ws : List V) (w : V), σ[i]? = some (some (.ref a)) ∧ H a = some (.ins (B.ca c) dx (ns.zip ws)) ∧ ns.length = ws.length ∧ (ns.zip ws).lookup f = some w ∧ StT K B F H σ (τ.set i none) (w :: .ref a :: vs) (d :: .obj true c ns (putL f (.val w) ns xs) :: ds) := by
  obtain ⟨v, k1, s1⟩ := s.take e
  obtain ⟨f1, f2, A, ⟨_, _, g1, g2, e2, h, b, q⟩, w, io⟩ := s1
  cases e2
  obtain ⟨a, dx, fs, ws, g, rfl, hx, rfl, hl, h5, h6⟩ := h
  obtain ⟨w0, p1, p2, q1, q2, q3, q4⟩ := fld_out h5 l
  refine ⟨a, dx, ws, w0, k1, hx, hl, q1, f1, fun b => p1 b + (((if b = a then 1 else 0) + p2 b) + g2 b), A, ⟨w0, _, p1, _, rfl, q2, ⟨.ref a, vs, fun b => (if b = a then 1 else 0) + p2 b, g2, rfl, ⟨a, dx, _, ws, p2, rfl, hx, rfl, hl, q3, fun _ => rfl⟩, b, fun _ => rfl⟩, fun _ => rfl⟩, ?_, io⟩
  have e3 : (fun b => f1 b + (p1 b + (((if b = a then 1 else 0) + p2 b) + g2 b))) = fun b => f1 b + f2 b := funext fun b => by rw [q, h6, q4]; omega
  rw [e3]; exact w
theorem StT.fieldIn {i : Nat} {a : Addr} {c f : Str} {ns : List Str} {xs : List D} {d0 e : D} {w : V} (s : StT K B F H σ τ (w :: .ref a :: vs) (e :: .obj true c ns (putL f (.val w) ns xs) :: ds)) (l : lookD f ns xs = some d0) (hv : σ[i]? = some (some (.ref a))) (hi : i < τ.length) : StT K B F H σ (τ.set i (some (.obj true c ns (putL f e ns xs)))) vs ds := by
  obtain ⟨f1, f2, A, ⟨_, _, g1, g2, e2, h, ⟨_, _, g3, g4, e3, h', b, q'⟩, q⟩, wd, io⟩ := s
  cases e2
  cases e3
  obtain ⟨a', dx, fs, ws, g, ea, hx, hf, hl, h5, h6⟩ := h'
  cases ea
  obtain ⟨g5, k1, k2⟩ := fld_in l h5 h
  have s2 : StT K B F H σ τ (.ref a :: vs) (.obj true c ns (putL f e ns xs) :: ds) := by
    refine ⟨f1, fun b => ((if b = a then 1 else 0) + g5 b) + g4 b, A, ⟨.ref a, vs, fun b => (if b = a then 1 else 0) + g5 b, g4, rfl, ⟨a, dx, fs, ws, g5, rfl, hx, hf, hl, k1, fun _ => rfl⟩, b, fun _ => rfl⟩, ?_, io⟩
    have e4 : (fun b => f1 b + (((if b = a then 1 else 0) + g5 b) + g4 b)) = fun b => f1 b + f2 b := funext fun b => by rw [q, q', h6, k2]; omega
    rw [e4]; exact wd
  exact s2.putBack hi hv
end
section
variable {X : Cx} {B : Bx} {W : WX}
/-! ### x.f.append(e) -/
def appF2 (i : Nat) (c f : Str) (ns : List Str) (xs es : List D) (r : R D) : SR := r.s fun d τ1 => .nx (τ1.set i (some (.obj true c ns (putL f (.lst true (es ++ [d])) ns xs))))
def appFL (i : Nat) (c f : Str) (ns : List Str) (xs : List D) (o : Option D) (r : R D) : SR := match o with
  | some (.lst true es) => if es.length < 1000000 then appF2 i c f ns xs es r else .bad
  | _ => .bad
def appF1 (i : Nat) (c f : Str) (o : Option D) (r : R D) : SR := match o with
  | some (.obj true c' ns xs) => if c' = c then appFL i c f ns xs (lookD f ns xs) r else .bad
  | _ => .bad
def sAppF (i : Nat) (c f : Str) (m : ME) : MS := fun τ => appF1 i c f (τ.getD i none) (m (τ.set i none))
theorem slen {K : PySem.W.Frag} {F H : Hp} {σ : L2.St} {τ : Env} {vs : List V} {ds : List D} (s : StT K B F H σ τ vs ds) : σ.length = τ.length := by
  obtain ⟨_, _, A, _⟩ := s; exact A.length
theorem s_appF {i : Nat} {o e : Expr} {c f : Str} {fp apos cpos pos : Pos} {m : ME} (cl : Cls X.K (B.ca c)) (na : NoAttr X.K (B.ca c) f) (ho : PE X o (tVar i)) (he : PE X e (rdE X.K B W m))
    (hb : attributeBase o f X.env (eval o X.env) = eval o X.env := by rfl)
    (hbase : attributeBase (.Attribute o f fp) "append" X.env (eval (.Attribute o f fp) X.env) = eval (.Attribute o f fp) X.env := by rfl)
    (hfew : ((backTo cpos (starEach [e] X.env)).all (fun x => !x.1) && (backToKw cpos (keywordEach [] X.env)).all (fun x => x.1.isSome)
      && decide ([e].length + ([] : List Keyword).length + (if ([] : List Keyword).isEmpty then 0 else 1) < 30)) = true := by rfl)
    (hline : (apos.endLine == cpos.line) = true := by rfl) (hs : starEach [e] X.env = (false, eval e X.env) :: starEach [] X.env := by rfl) (hplain : (backTo cpos (starEach [] X.env)).any (·.1) = false := by rfl)
    (hsw : swapsWith (.Call (.Attribute (.Attribute o f fp) "append" apos) [e] [] cpos) none pos.line X.env = pure false := by rfl) : PS X (.Expr (.Call (.Attribute (.Attribute o f fp) "append" apos) [e] [] cpos) pos) (rdS X.K B W (sAppF i c f m)) :=
  PS.imp (ps_expr (pe_bm PySem.F.plainAttrs_list PySem.F.slot_list_append PySem.F.type_list_append mt_append (pe_fld ho hb) (pa_cons he pa_nil hs) hbase hfew hline hs hplain) hsw) fun D σ H ⟨F, τ, vs, ds, s, p⟩ => by
    unfold sAppF appF1 at p
    split at p
    · rename_i c' ns xs e0
      by_cases hc : c' = c
      · rw [if_pos hc] at p
        subst hc
        unfold appFL at p
        split at p
        · rename_i es l
          by_cases hl : es.length < 1000000
          · rw [if_pos hl] at p
            unfold appF2 at p
            obtain ⟨a, dx, ws, w, k1, k2, k3, k4, s1⟩ := s.fieldOut (getD_some e0) l
            obtain ⟨g, a', us, g', rfl, h2, h3, _⟩ := s1.top
            refine ⟨.ref a, k1, a, _, dx, _, .ref a', rfl, k2, cl, na, k4, .inl ⟨rfl, us, sqOf h2⟩, F, _, _, _, s1, post_imp (post_s (σ := σ) p) (fun d τ1 q y F1 H1 s2 => ?_) fun c τ1 q F1 H1 s2 => q F1 H1 s2.pop.pop⟩
            have s3 := StT.swap (us := [y]) (es := [d]) s2 rfl
            obtain ⟨f, a2, us', g, ea, hx, hg, _⟩ := s3.top
            cases ea
            refine ⟨a', us', y, rfl, rfl, hx, by rw [hg.length, sizeLine_eq]; omega, ?_⟩
            have s4 := s3.change (us := [y]) (ds := [d]) (ys := us' ++ [y]) (es2 := es ++ [d]) rfl hx fun g1 g2 r1 r2 => ⟨_, r1.append r2, fun b => Nat.le_refl _⟩
            have s5 := s4.fieldIn (i := i) l k1 (by rw [← slen s4]; exact (List.getElem?_eq_some_iff.mp k1).1)
            exact q σ F1 _ s5
          · rw [if_neg hl] at p; exact p.elim
        · exact p.elim
      · rw [if_neg hc] at p; exact p.elim
    · exact p.elim
/-! ### x.f[k] = e -/
def setF3 (i : Nat) (c f : Str) (ns : List Str) (xs : List D) (o : Option (List D)) (τ : Env) : SR := match o with
  | some es' => .nx (τ.set i (some (.obj true c ns (putL f (.lst true es') ns xs))))
  | none => .bad
def setF2 (i : Nat) (c f : Str) (ns : List Str) (xs es : List D) (k : Option D) (d : D) (τ : Env) : SR := match k with
  | some (.int k) => setF3 i c f ns xs (setD es k d) τ
  | _ => .bad
def setFL (i : Nat) (c f : Str) (ns : List Str) (xs : List D) (o : Option D) (k : Option D) (d : D) (τ : Env) : SR := match o with
  | some (.lst true es) => setF2 i c f ns xs es k d τ
  | _ => .bad
def setF1 (i : Nat) (c f : Str) (o : Option D) (k : Option D) (d : D) (τ : Env) : SR := match o with
  | some (.obj true c' ns xs) => if c' = c then setFL i c f ns xs (lookD f ns xs) k d τ else .bad
  | _ => .bad
def sSetIxF (i : Nat) (c f : Str) (mi : MZ) (m : ME) : MS := fun τ => (m τ).s fun d τ1 => setF1 i c f (τ1.getD i none) (mi τ1) d τ1
theorem s_setIxF {i : Nat} {o ix e : Expr} {c f : Str} {fp pos pos' : Pos} {mi : MZ} {m : ME} (cl : Cls X.K (B.ca c)) (na : NoAttr X.K (B.ca c) f) (ho : PE X o (tVar i)) (hi : PE X ix (rdZ X.K B mi)) (he : PE X e (rdE X.K B W m))
    (hb : attributeBase o f X.env (eval o X.env) = eval o X.env := by rfl)
    (hs : swapsWithSole [.Subscript (.Attribute o f fp) ix pos'] e pos.line X.env = pure false := by rfl) (hw : swappedStores [.Subscript (.Attribute o f fp) ix pos'] e X.env = pure none := by rfl)
    (h1 : (assignEach [.Subscript (.Attribute o f fp) ix pos'] X.env).map (·.2) = [assign (.Subscript (.Attribute o f fp) ix pos') X.env] := by rfl)
    (ha : ∀ v, assign (.Subscript (.Attribute o f fp) ix pos') X.env v = (do
      let ov ← holding [v] (eval (.Attribute o f fp) X.env)
      let iv ← holding [v, ov] (eval ix X.env)
      standAt pos'
      holding [v, ov, iv] (setItem ov iv v)
      release [v, ov, iv] []) := by intro _; rfl) : PS X (.Assign [.Subscript (.Attribute o f fp) ix pos'] e pos) (rdS X.K B W (sSetIxF i c f mi m)) :=
  PS.imp (ps_asg he (pg_sub (pe_fld ho hb) hi set_list ha) hs hw h1) fun D σ H ⟨F, τ, vs, ds, s, p⟩ => by
    refine ⟨F, τ, vs, ds, s, post_imp (post_s (σ := σ) p) (fun d τ1 q y F1 H1 s1 => ?_) fun _ _ q => q⟩
    replace q : postS X.K B W vs ds D (setF1 i c f (τ1.getD i none) (mi τ1) d τ1) := q
    unfold setF1 at q
    split at q
    · rename_i c' ns xs e0
      by_cases hc : c' = c
      · rw [if_pos hc] at q
        subst hc
        unfold setFL at q
        split at q
        · rename_i es l
          unfold setF2 at q
          split at q
          · rename_i dk k ek
            cases e3 : ixN es.length k with
            | none => unfold setF3 setD at q; rw [e3] at q; exact q.elim
            | some j =>
              unfold setF3 setD at q; rw [e3] at q
              replace q : postS X.K B W vs ds D (SR.nx (τ1.set i (some (.obj true c' ns (putL f (.lst true (es.set j d)) ns xs))))) := q
              obtain ⟨a, dx, ws, w, k1, k2, k3, k4, s2⟩ := s1.fieldOut (getD_some e0) l
              obtain ⟨g, a', us, g', rfl, h2, h3, _⟩ := s2.top
              refine ⟨.ref a, k1, a, _, dx, _, .ref a', rfl, k2, cl, na, k4, F1, τ1, _, _, s1, .int k, ek, fun w fw hw => ?_⟩
              obtain rfl : w = V.int k := hw.1
              refine ⟨a', us, k, j, rfl, rfl, h2, by rw [h3.length]; exact e3, ?_⟩
              have s3 : StT X.K B F1 H1 σ (τ1.set i none) (.ref a' :: .ref a :: y :: vs) (.lst true es :: .obj true c' ns (putL f (.val (.ref a')) ns xs) :: d :: ds) := s2
              have s4 : StT X.K B F1 H1 σ (τ1.set i none) (.ref a' :: y :: .ref a :: vs) (.lst true es :: d :: .obj true c' ns (putL f (.val (.ref a')) ns xs) :: ds) := by
                have t1 := StT.swap (us := [.ref a', .ref a]) (es := [.lst true es, .obj true c' ns (putL f (.val (.ref a')) ns xs)]) s3 rfl
                exact StT.swap (us := [y]) (es := [d]) t1 rfl
              have s5 := s4.change (us := [y]) (ds := [d]) (ys := us.set j y) (es2 := es.set j d) rfl h2 fun g1 g2 r1 r2 => by
                obtain ⟨_, r, f1, f2, ey, q1, q2, q3⟩ := r2
                cases ey
                obtain ⟨g, k1, k2⟩ := RepOs.set q1 j r1
                exact ⟨g, k1, fun b => by have := k2 b; have := q3 b; have := q2.2 b; omega⟩
              have s6 := s5.fieldIn (i := i) l k1 (by rw [← slen s5]; exact (List.getElem?_eq_some_iff.mp k1).1)
              rw [List.set_set] at s6
              exact q σ F1 _ s6
          · exact q.elim
        · exact q.elim
      · rw [if_neg hc] at q; exact q.elim
    · exact q.elim

/-! ### x.f = e -/
def putFld (f : Str) (d : D) (c : Str) (ns : List Str) (xs : List D) : D := if ns.contains f = true then .obj true c ns (putL f d ns xs) else .obj true c (ns ++ [f]) (xs ++ [d])
def fldS (i : Nat) (c f : Str) (o : Option D) (d : D) (τ : Env) : SR := match o with
  | some (.obj true c' ns xs) => if c' = c ∧ ns.length < 999 then .nx (τ.set i (some (putFld f d c ns xs))) else .bad
  | _ => .bad
def sSetFld (i : Nat) (c f : Str) (m : ME) : MS := fun τ => (m τ).s fun d τ1 => fldS i c f (τ1.getD i none) d τ1
theorem zip_putF {f : Str} {v : V} : ∀ {ns : List Str} {ws : List V}, ns.length = ws.length → ns.contains f = true → ∃ us, putF f v (ns.zip ws) = ns.zip us ∧ us.length = ws.length ∧ ∀ {K : PySem.W.Frag} {ca : Str → Addr} {F H : Hp} {xs : List D} {g g1 : Ct} {d : D}, RepOs K ca F H xs ws g → RepO K ca F H d v g1 → ∃ g2, RepOs K ca F H (putL f d ns xs) us g2 ∧ ∀ b, g2 b ≤ g b + g1 b
  | [], ws, _, h => by cases h
  | n :: ns, [], hl, _ => by cases hl
  | n :: ns, w :: ws, hl, h => by
    by_cases q : n = f
    · refine ⟨v :: ws, ?_, rfl, fun {K ca F H xs g g1 d} h1 h2 => ?_⟩
      · show (if n = f then (n, v) :: ns.zip ws else (n, w) :: putF f v (ns.zip ws)) = _
        rw [if_pos q]; rfl
      · cases xs with
        | nil => cases h1.1
        | cons x xs =>
          obtain ⟨_, _, f1, f2, e, _, k2, k3⟩ := h1
          cases e
          refine ⟨fun b => g1 b + f2 b, ?_, fun b => by show g1 b + f2 b ≤ g b + g1 b; rw [k3]; omega⟩
          show RepOs K ca F H (if f = n then d :: xs else x :: putL f d ns xs) (v :: ws) _
          rw [if_pos q.symm]
          exact ⟨v, ws, g1, f2, rfl, h2, k2, fun _ => rfl⟩
    · have h' : ns.contains f = true := by
        rw [List.contains_cons] at h
        have : (f == n) = false := by simpa using fun z : f = n => q z.symm
        rw [this] at h; simpa using h
      obtain ⟨us, e1, e2, e3⟩ := zip_putF (v := v) (ns := ns) (ws := ws) (by simpa using hl) h'
      refine ⟨w :: us, ?_, by simp [e2], fun {K ca F H xs g g1 d} h1 h2 => ?_⟩
      · show (if n = f then (n, v) :: ns.zip ws else (n, w) :: putF f v (ns.zip ws)) = _
        rw [if_neg q, e1]; rfl
      · cases xs with
        | nil => cases h1.1
        | cons x xs =>
          obtain ⟨_, _, f1, f2, e, k1, k2, k3⟩ := h1
          cases e
          obtain ⟨g2, q1, q2⟩ := e3 k2 h2
          refine ⟨fun b => f1 b + g2 b, ?_, fun b => by show f1 b + g2 b ≤ g b + g1 b; have := q2 b; rw [k3]; omega⟩
          show RepOs K ca F H (if f = n then d :: xs else x :: putL f d ns xs) (w :: us) _
          rw [if_neg (fun z => q z.symm)]
          exact ⟨w, us, f1, g2, rfl, k1, q1, fun _ => rfl⟩
theorem zip_keys {ns : List Str} {ws : List V} (hl : ns.length = ws.length) : (ns.zip ws).map (·.1) = ns := by
  rw [List.map_fst_zip]; omega
theorem s_setFld {i : Nat} {o e : Expr} {c f : Str} {pos pos' : Pos} {m : ME} (cl : Cls X.K (B.ca c)) (na : NoAttr X.K (B.ca c) f) (ho : PE X o (tVar i)) (he : PE X e (rdE X.K B W m)) (hs : swapsWith e (some (.Attribute o f pos')) pos.line X.env = pure false := by rfl) :
    PS X (.Assign [.Attribute o f pos'] e pos) (rdS X.K B W (sSetFld i c f m)) := PS.imp (ps_fld ho he hs) fun D' σ H ⟨F, τ, vs, ds, s, p⟩ => by
  refine ⟨F, τ, vs, ds, s, post_imp (post_s (σ := σ) p) (fun d τ1 q y F1 H1 s1 => ?_) fun _ _ q => q⟩
  replace q : postS X.K B W vs ds D' (fldS i c f (τ1.getD i none) d τ1) := q
  unfold fldS at q
  split at q
  · rename_i c' ns xs e0
    by_cases hc : c' = c ∧ ns.length < 999
    · rw [if_pos hc] at q
      obtain ⟨hc, hn⟩ := hc
      subst hc
      obtain ⟨v, k1, s2⟩ := s1.take (getD_some e0)
      obtain ⟨f1, f2, A, ⟨_, _, g1, g2, e2, h, ⟨_, _, g3, g4, e3, hy, b, q'⟩, qq⟩, wd, io⟩ := s2
      cases e2
      cases e3
      obtain ⟨a, dx, fs, ws, g, rfl, hx, rfl, hl, h5, h6⟩ := h
      have one := wd.nd a
      have tot : ∀ b, f1 b + f2 b = f1 b + (((if b = a then 1 else 0) + g b) + (g3 b + g4 b)) := fun b => by rw [qq, h6, q']
      have za : f1 a = 0 ∧ g a = 0 ∧ g3 a = 0 ∧ g4 a = 0 := by
        have := tot a
        rw [if_pos rfl] at this
        omega
      refine ⟨.ref a, k1, a, _, dx, _, rfl, hx, cl, na, by rw [List.length_zip]; omega, ?_⟩
      obtain ⟨ns2, us, xs2, g5, e5, e6, e7, r5, le5⟩ : ∃ (ns2 : List Str) (us : List V) (xs2 : List D) (g5 : Ct), putF f y (ns.zip ws) = ns2.zip us ∧ ns2.length = us.length ∧ putFld f d c' ns xs = .obj true c' ns2 xs2 ∧ RepOs X.K B.ca F1 H1 xs2 us g5 ∧ ∀ b, g5 b ≤ g b + g3 b := by
        unfold putFld
        by_cases hf : ns.contains f = true
        · obtain ⟨us, e5, e6, e7⟩ := zip_putF (v := y) hl hf
          obtain ⟨g5, r5, le5⟩ := e7 h5 hy
          exact ⟨ns, us, _, g5, e5, by omega, if_pos hf, r5, le5⟩
        · refine ⟨ns ++ [f], ws ++ [y], _, fun b => g b + g3 b, ?_, by simp [hl], if_neg hf, h5.append (show RepOs X.K B.ca F1 H1 [d] [y] g3 from ⟨y, [], g3, fun _ => 0, rfl, hy, ⟨rfl, fun _ => rfl⟩, fun b => (Nat.add_zero _).symm⟩), fun b => Nat.le_refl _⟩
          rw [putF_new f y (ns.zip ws) (by rw [zip_keys hl]; simpa using hf), List.zip_append hl]
          rfl
      have off : ∀ {φ : Ct}, φ a = 0 → ∀ x, 0 < φ x → upd H1 a (.ins (B.ca c') dx (putF f y (ns.zip ws))) x = H1 x := fun {φ} hz x hx => upd_ne fun e => by rw [e, hz] at hx; omega
      have zg : g5 a = 0 := by have := le5 a; omega
      have fa : F1 a = none := wd.dF a (by have := tot a; rw [if_pos rfl] at this; show 0 < f1 a + f2 a; omega)
      have ra : B.R a = none := wd.dR a (by have := tot a; rw [if_pos rfl] at this; show 0 < f1 a + f2 a; omega)
      have s3 : StT X.K B F1 (upd H1 a (.ins (B.ca c') dx (putF f y (ns.zip ws)))) σ (τ1.set i none) (.ref a :: vs) (putFld f d c' ns xs :: ds) := by
        rw [e7]
        refine ⟨f1, fun b => ((if b = a then 1 else 0) + g5 b) + g4 b, A.mono (Same.refl _) (off za.1), ⟨.ref a, vs, fun b => (if b = a then 1 else 0) + g5 b, g4, rfl, ⟨a, dx, _, us, g5, rfl, upd_same, e5, e6, RepOs.mono (Same.refl _) _ _ _ (off zg) r5, fun _ => rfl⟩, RepOs.mono (Same.refl _) _ _ _ (off za.2.2.2) b, fun _ => rfl⟩, ?_, io⟩
        have w2 : Wd B F1 H1 (fun b => f1 b + (((if b = a then 1 else 0) + g5 b) + g4 b)) := wd.less fun b => by
          show f1 b + (((if b = a then 1 else 0) + g5 b) + g4 b) ≤ f1 b + f2 b
          have := tot b; have := le5 b; omega
        exact ⟨w2.nd, w2.dF, w2.dR, fun b x e => by rw [upd_ne (ne_of_none e fa)]; exact wd.sF b x e, fun b x e => by rw [upd_ne (ne_of_none e ra)]; exact wd.sR b x e, wd.s0, wd.fr⟩
      have s4 := s3.putBack (i := i) (by rw [← slen s3]; exact (List.getElem?_eq_some_iff.mp k1).1) k1
      rw [List.set_set] at s4
      exact q σ F1 _ s4
    · rw [if_neg hc] at q; exact q.elim
  · exact q.elim
end
/-! ### a class whose __init__ is walked; a method that changes its object -/
section
variable {P : Program} {w : World} {K : PySem.W.Frag} {mg : Str → Option Value} {base : Heap} {ca : Str → Addr}
structure MkI (P : Program) (w : World) (K : PySem.W.Frag) (mg : Str → Option Value) (base : Heap) (ca : Str → Addr) (j : Nat) (x : Str) (g : List D → CR2) : Prop where
  ex : ∃ k f fd ps, k + 1 ≤ j ∧ Mk K (ca x) f ∧ mg x = some (.ref (ca x)) ∧ Binds K fd ps [] ∧ FnOk P w K mg base (L2.CX P w) k f fd ps (spIO K ca 1 g)
structure MFoI (P : Program) (w : World) (K : PySem.W.Frag) (mg : Str → Option Value) (base : Heap) (ca : Str → Addr) (j : Nat) (c m : Str) (g : List D → CR2) : Prop where
  ex : ∃ k f fd ps, k ≤ j ∧ Meth K (ca c) m f ∧ Binds K fd ps [] ∧ FnOk P w K mg base (L2.CX P w) k f fd ps (spIO K ca 1 g)
  cl : Cls K (ca c)
end
def mkI (r : CR2) (τ : Env) : R D := match r with
  | .ok .non [o] => .ok o τ
  | _ => .bad
def eMakeI (c : Str) (g : List D → CR2) (m : MA) : ME := fun τ => (m τ).bind fun ds τ1 => mkI (g (.obj true c [] [] :: freezeL ds)) τ1
def methI2 (r : CR2) (i : Nat) (τ : Env) : R D := match r with
  | .ok d [o] => .ok d (τ.set i (some o))
  | _ => .bad
def methI1 (o : Option D) (g : List D → CR2) (i : Nat) (ds : List D) (τ : Env) : R D := match o with
  | some d => methI2 (g (d :: freezeL ds)) i (τ.set i none)
  | none => .bad
def methOk (c m : Str) (o : Option D) : Bool := match o with
  | some (.obj true c' ns _) => decide (c' = c) && !ns.contains m
  | _ => false
def eMethI (c m : Str) (g : List D → CR2) (i : Nat) (ma : MA) : ME := fun τ => if methOk c m (τ.getD i none) = true then (ma τ).bind fun ds τ1 => methI1 (τ1.getD i none) g i ds τ1 else .bad
section
variable {X : Cx} {B : Bx} {W : WX}
theorem mkI_ok {r : CR2} {τ : Env} {y : D → Env → Prop} {x : Str → Env → Prop} (h : post y x (mkI r τ)) : ∃ o, r = .ok .non [o] ∧ y o τ := by
  unfold mkI at h
  split at h
  · rename_i o; exact ⟨o, rfl, h⟩
  · exact h.elim
theorem make_sp {c : Str} {g : List D → CR2} {F H : Hp} {σ : L2.St} {τ : Env} {vs us : List V} {ds es : List D} {Q : VK} {E : XK} (s : StT X.K B F H σ τ vs ds) (rl : RepL X.K B.ca F es us) (p : post (fun d τ' => ∀ v F' H', StT X.K B F' H' σ τ' (v :: vs) (d :: ds) → Q v H') (exW X.K B W σ vs ds) (mkI (g (.obj true c [] [] :: es)) τ)) :
    ∀ x dx, H x = none → H dx = none → dx ≠ x → spIO X.K B.ca 1 g (.ref x :: us) (upd (upd H dx (.own x)) x (.ins (B.ca c) dx [])) (fun v H2 => v = .non ∧ Q (.ref x) H2) E := by
  intro x dx nx ndx ne
  obtain ⟨o, eg, q⟩ := mkI_ok p
  have s1 := s.grown (same_upd (o := .own x) ndx)
  have hx : upd H dx (.own x) x = none := by rw [upd_ne (Ne.symm ne)]; exact nx
  -- the new object on top
  have s2 : StT X.K B F (upd (upd H dx (.own x)) x (.ins (B.ca c) dx [])) σ τ (.ref x :: vs) (.obj true c [] [] :: ds) := by
    obtain ⟨f1, f2, A, b, wd, io⟩ := s1
    have z : f1 x + f2 x = 0 := by
      have h1 : ¬ 0 < f1 x := fun h => A.there x h hx
      have h2 : ¬ 0 < f2 x := fun h => b.there _ _ _ x h hx
      omega
    have off : ∀ {φ : Ct}, φ x = 0 → ∀ a, 0 < φ a → upd (upd H dx (.own x)) x (.ins (B.ca c) dx []) a = upd H dx (.own x) a := fun {φ} hz a ha => upd_ne fun e => by rw [e, hz] at ha; omega
    refine ⟨f1, fun b => (if b = x then 1 else 0) + f2 b, A.mono (Same.refl _) (off (by omega)), ⟨.ref x, vs, fun b => if b = x then 1 else 0, f2, rfl, ⟨x, dx, [], [], fun _ => 0, rfl, upd_same, rfl, rfl, ⟨rfl, fun _ => rfl⟩, fun b => (Nat.add_zero _).symm⟩, RepOs.mono (Same.refl _) _ _ _ (off (by omega)) b, fun _ => rfl⟩, ?_, io⟩
    have e : (fun b => f1 b + ((if b = x then 1 else 0) + f2 b)) = fun b => (if b = x then 1 else 0) + (f1 b + f2 b) := funext fun b => by omega
    rw [e]
    exact wd.owned hx z
  obtain ⟨f0, r0, n0, d0, fin⟩ := StT.calledIO (vals := [.ref x]) (ios := [.obj true c [] []]) rfl s2
  refine ⟨F, f0, [.obj true c [] []], es, [.ref x], us, rfl, rfl, r0, rl, s2.same, n0, d0, ?_⟩
  show match g ([.obj true c [] []] ++ es) with | .ok d outs => _ | .bad => False
  rw [List.singleton_append, eg]
  intro v F' H' g' a1 a2 a3 a4 a5 a6 a7
  have s3 := fin F' H' v .non [o] g' a1 a2 a3 a4 a5 a6 a7
  refine ⟨s3.topF rfl, q _ F' H' s3.pop⟩
theorem e_makeI {x : Str} {p pos : Pos} {e : Expr} {es : List Expr} {m : MA} {g : List D → CR2} {k j : Nat} (c : XOk X W) (G : MkI X.prog X.w X.K X.mg X.base B.ca k x g) (hr : Room j X.A) (hg : Gl X x) (ha : PA X (e :: es) (rdA X.K B W m)) (hk : k ≤ j := by decide) (hdb : (x == ("__debug__" : Str)) = false := by decide)
    (he : starEach (e :: es) X.env = (false, eval e X.env) :: starEach es X.env := by rfl) (hpl : (backTo pos (starEach es X.env)).any (·.1) = false := by rfl) : PE X (.Call (.Name x p) (e :: es) [] pos) (rdE X.K B W (eMakeI x g m)) := by
  obtain ⟨k', f, fd, ps, hk', M, hm, hb, F⟩ := G.ex
  refine PE.imp (pe_make M F (hr.mono (Nat.le_trans hk' hk)) hg hm hb .nil passL ha hdb he hpl) fun σ H Q h => ?_
  obtain ⟨F, τ, vs, ds, s, p⟩ := h
  refine ⟨F, τ, vs, ds, s, post_imp (post_bind p) (fun as τ1 q us F1 H1 hl s1 => ?_) fun _ _ q => q⟩
  obtain ⟨F2, sm, rl, s2⟩ := s1.freeze hl
  rw [List.append_nil]
  exact make_sp (W := W) s2 rl q
theorem e_makeI0 {x : Str} {p pos : Pos} {g : List D → CR2} {k j : Nat} (c : XOk X W) (G : MkI X.prog X.w X.K X.mg X.base B.ca k x g) (hr : Room j X.A) (hg : Gl X x) (hk : k ≤ j := by decide) (hdb : (x == ("__debug__" : Str)) = false := by decide) : PE X (.Call (.Name x p) [] [] pos) (rdE X.K B W (eMakeI x g aNil)) := by
  obtain ⟨k', f, fd, ps, hk', M, hm, hb, F⟩ := G.ex
  refine PE.imp (pe_make0 M F (hr.mono (Nat.le_trans hk' hk)) hg hm hb .nil passL hdb) fun σ H Q h => ?_
  obtain ⟨F, τ, vs, ds, s, p⟩ := h
  exact make_sp (W := W) (es := []) (us := []) s rfl p
theorem methI_sp {c m : Str} {g : List D → CR2} {i : Nat} {a : Addr} {F H : Hp} {σ : L2.St} {τ : Env} {vs us : List V} {ds es : List D} {Q : VK} {E : XK} (s : StT X.K B F H σ τ (us ++ vs) (es ++ ds)) (hl : us.length = es.length) (hv : σ[i]? = some (some (.ref a)))
    (p : post (fun d τ' => ∀ v F' H', StT X.K B F' H' σ τ' (v :: vs) (d :: ds) → Q v H') (exW X.K B W σ vs ds) (methI1 (τ.getD i none) g i es τ)) : spIO X.K B.ca 1 g (.ref a :: us) H Q E := by
  obtain ⟨F2, sm, rl, s2⟩ := s.freeze hl
  unfold methI1 at p
  split at p
  · rename_i d e0
    obtain ⟨v, k1, s3⟩ := s2.take (getD_some e0)
    rw [hv] at k1
    cases k1
    unfold methI2 at p
    split at p
    · rename_i r o eg
      obtain ⟨f0, r0, n0, d0, fin⟩ := StT.calledIO (vals := [.ref a]) (ios := [d]) rfl s3
      refine ⟨F2, f0, [d], freezeL es, [.ref a], us, rfl, rfl, r0, rl, s3.same, n0, d0, ?_⟩
      show match g ([d] ++ freezeL es) with | .ok d outs => _ | .bad => False
      rw [List.singleton_append, eg]
      intro v F' H' g' a1 a2 a3 a4 a5 a6 a7
      have s4 := fin F' H' v r [o] g' a1 a2 a3 a4 a5 a6 a7
      have s5 := StT.swap (us := [v]) (es := [r]) s4 rfl
      have s6 := s5.putBack (i := i) (by rw [← slen s5]; exact (List.getElem?_eq_some_iff.mp hv).1) hv
      exact p v F' H' s6
    · exact p.elim
  · exact p.elim
theorem methOk_ok {c m : Str} {o : Option D} (h : methOk c m o = true) : ∃ ns xs, o = some (.obj true c ns xs) ∧ ns.contains m = false := by
  unfold methOk at h
  split at h
  · rename_i c' ns xs
    rw [Bool.and_eq_true] at h
    have h1 : c' = c := by simpa using h.1
    subst h1
    exact ⟨ns, xs, rfl, by simpa using h.2⟩
  · cases h
theorem e_methI {m : Str} {o e : Expr} {es : List Expr} {apos pos : Pos} {ma : MA} {cc : Str} {g : List D → CR2} {i k j : Nat} {pl : Sem Bool} (c : XOk X W) (G : MFoI X.prog X.w X.K X.mg X.base B.ca k cc m g) (hr : Room j X.A) (ho : PE X o (tVar i)) (ha : PA X (e :: es) (rdA X.K B W ma)) (hk : k ≤ j := by decide)
    (hst : starEach (e :: es) X.env = (false, eval e X.env) :: starEach es X.env := by rfl) (hpl : (backTo pos (starEach es X.env)).any (·.1) = false := by rfl)
    (ht : eval (.Call (.Attribute o m apos) (e :: es) [] pos) X.env = (do
      let ov ← eval o X.env
      standAt apos.atName
      let (f, first) ← holding [ov] (getMethod ov m pl)
      callWith pos f first (backTo pos (starEach (e :: es) X.env)) (backToKw pos (keywordEach [] X.env))) := by rfl) :
    PE X (.Call (.Attribute o m apos) (e :: es) [] pos) (rdE X.K B W (eMethI cc m g i ma)) := by
  obtain ⟨⟨k', f, fd, ps, hk', hm, hb, F⟩, cl⟩ := G
  refine PE.imp (pe_methX (pl := pl) ho cl hm F (hr.mono (Nat.le_trans hk' hk)) hb (fun σ => passAt c.tk σ) ha hst hpl ht) fun σ H Q h => ?_
  obtain ⟨F, τ, vs, ds, s, p⟩ := h
  unfold eMethI at p
  by_cases z : methOk cc m (τ.getD i none) = true
  · rw [if_pos z] at p
    obtain ⟨ns, xs, e0, nm⟩ := methOk_ok z
    obtain ⟨v, f, k1, a, dx, fs, ws, g', rfl, hx, rfl, hl, _⟩ := s.get (getD_some e0)
    refine ⟨.ref a, k1, a, dx, _, rfl, hx, lookup_zip_none nm, F, τ, vs, ds, s, post_imp (post_bind p) (fun as τ1 q us F1 H1 hl s1 => ?_) fun _ _ q => q⟩
    exact methI_sp (c := cc) (m := m) s1 hl k1 q
  · rw [if_neg z] at p; exact p.elim
theorem e_methI0 {m : Str} {o : Expr} {apos pos : Pos} {cc : Str} {g : List D → CR2} {i k j : Nat} {pl : Sem Bool} (c : XOk X W) (G : MFoI X.prog X.w X.K X.mg X.base B.ca k cc m g) (hr : Room j X.A) (ho : PE X o (tVar i)) (hk : k ≤ j := by decide)
    (ht : eval (.Call (.Attribute o m apos) [] [] pos) X.env = (do
      let ov ← eval o X.env
      standAt apos.atName
      let (f, first) ← holding [ov] (getMethod ov m pl)
      callWith pos f first (backTo pos (starEach [] X.env)) (backToKw pos (keywordEach [] X.env))) := by rfl) :
    PE X (.Call (.Attribute o m apos) [] [] pos) (rdE X.K B W (eMethI cc m g i aNil)) := by
  obtain ⟨⟨k', f, fd, ps, hk', hm, hb, F⟩, cl⟩ := G
  refine PE.imp (pe_meth0 (E := E0) (pl := pl) ho cl hm F (hr.mono (Nat.le_trans hk' hk)) hb .nil passL ht) fun σ H Q h => ?_
  obtain ⟨F', τ, vs, ds, st, p⟩ := h
  unfold eMethI at p
  by_cases z : methOk cc m (τ.getD i none) = true
  · rw [if_pos z] at p
    obtain ⟨ns, xs, e0, nm⟩ := methOk_ok z
    obtain ⟨v, f', k1, a, dx, fs, ws, g', rfl, hx, rfl, hl, _⟩ := st.get (getD_some e0)
    refine ⟨.ref a, k1, a, dx, _, rfl, hx, lookup_zip_none nm, ?_⟩
    exact methI_sp (c := cc) (m := m) (us := []) (es := []) (E := E0) st rfl k1 p
  · rw [if_neg z] at p; exact p.elim
/-- a method without further arguments, of an object that it only reads -/
def lendR0 (r : CR) (τ : Env) : R D := match r with
  | .ok d => if clean d = true then .ok d τ else .bad
  | _ => .bad
def mz0B (o : Option (List D → CR)) (m : Str) (b : Bool) (c : Str) (ns : List Str) (xs : List D) (τ : Env) : R D := match o with
  | some g => if ns.contains m = true then .bad else lendR0 (g (freezeL [.obj b c ns xs])) τ
  | none => .bad
def mz0A (As : List (Str × (List D → CR))) (m : Str) (o : Option D) (τ : Env) : R D := match o with
  | some (.obj b c ns xs) => mz0B (As.lookup c) m b c ns xs τ
  | _ => .bad
def eMethZ0 (As : List (Str × (List D → CR))) (m : Str) (i : Nat) : ME := fun τ => mz0A As m (τ.getD i none) τ
theorem lend_sp0 {g : List D → CR} {F H : Hp} {σ : L2.St} {τ : Env} {vs us : List V} {ds es : List D} {f : Ct} {Q : VK} {E : XK} (s : StT X.K B F H σ τ vs ds) (r : RepOs X.K B.ca F H es us f)
    (p : post (fun d τ' => ∀ v F' H', StT X.K B F' H' σ τ' (v :: vs) (d :: ds) → Q v H') (exW X.K B W σ vs ds) (lendR0 (g (freezeL es)) τ)) : spP X.K B.ca g us H Q E := by
  refine ⟨lend F H f, freezeL es, lend_sub s.same f, lend_rep s r, ?_⟩
  unfold lendR0 at p
  cases eg : g (freezeL es) with
  | ok d =>
    rw [eg] at p
    by_cases hc : clean d = true
    · replace p : post _ _ (if clean d = true then R.ok d τ else R.bad) := p
      rw [if_pos hc] at p
      intro v F' H' f' k1 k2 k3 k4 k5 k6 k7
      obtain ⟨F2, s2⟩ := s.lent r k1 k2 k3 k4 k5 k6 k7 hc
      exact p v F2 H' s2
    · replace p : post _ _ (if clean d = true then R.ok d τ else R.bad) := p
      rw [if_neg hc] at p; exact p.elim
  | ex c => rw [eg] at p; exact p.elim
  | bad => rw [eg] at p; exact p.elim
theorem e_methZ0 {m : Str} {o : Expr} {apos pos : Pos} {As : List (Str × (List D → CR))} {i k j : Nat} {pl : Sem Bool} (c : XOk X W) (hAs : MAll X.prog X.w X.K X.mg X.base B.ca k m As) (hr : Room j X.A) (ho : PE X o (tVar i)) (hk : k ≤ j := by decide)
    (ht : eval (.Call (.Attribute o m apos) [] [] pos) X.env = (do
      let ov ← eval o X.env
      standAt apos.atName
      let (f, first) ← holding [ov] (getMethod ov m pl)
      callWith pos f first (backTo pos (starEach [] X.env)) (backToKw pos (keywordEach [] X.env))) := by rfl) :
    PE X (.Call (.Attribute o m apos) [] [] pos) (rdE X.K B W (eMethZ0 As m i)) := by
  refine ⟨fun pins s σ H Q I h => ?_⟩
  obtain ⟨F', τ, vs, ds, st, p⟩ := h
  unfold eMethZ0 mz0A at p
  split at p
  · rename_i b cc ns xs e0
    unfold mz0B at p
    split at p
    · rename_i g eg
      by_cases nc : ns.contains m = true
      · rw [if_pos nc] at p; exact p.elim
      · rw [if_neg nc] at p
        obtain ⟨⟨k', f, fd, ps, hk', hm, hb, G⟩, cl⟩ := hAs.get eg
        refine (pe_meth0 (E := E0) (pl := pl) ho cl hm G (hr.mono (Nat.le_trans hk' hk)) hb .nil passL ht).run pins s σ H Q I ?_
        obtain ⟨v, f', k1, r⟩ := st.get (getD_some e0)
        have hx : ∃ a dx ws, v = .ref a ∧ H a = some (.ins (B.ca cc) dx (ns.zip ws)) := by
          cases b with
          | true => obtain ⟨a, dx, fs, ws, g', rfl, hx, rfl, _⟩ := r; exact ⟨a, dx, ws, rfl, hx⟩
          | false => obtain ⟨⟨a, dx, fs, ws, rfl, hx, rfl, _⟩, _⟩ := r; exact ⟨a, dx, ws, rfl, st.same _ _ hx⟩
        obtain ⟨a, dx, ws, rfl, hx⟩ := hx
        refine ⟨.ref a, k1, a, dx, _, rfl, hx, lookup_zip_none (by simpa using nc), ?_⟩
        exact lend_sp0 (W := W) (us := [.ref a]) st (show RepOs X.K B.ca F' H [.obj b cc ns xs] [.ref a] f' from ⟨_, [], f', fun _ => 0, rfl, r, ⟨rfl, fun _ => rfl⟩, fun b => (Nat.add_zero _).symm⟩) p
    · exact p.elim
  · exact p.elim
/-- a method without further arguments, of an object that is given up to it -/
def m0C (r : CR) (i : Nat) (τ : Env) : R D := match r with
  | .ok d => .ok d (τ.set i none)
  | _ => .bad
def m0B (o : Option (List D → CR)) (m : Str) (b : Bool) (c : Str) (ns : List Str) (xs : List D) (i : Nat) (τ : Env) : R D := match o with
  | some g => if ns.contains m = true then .bad else m0C (g [freeze (.obj b c ns xs)]) i τ
  | none => .bad
def m0A (As : List (Str × (List D → CR))) (m : Str) (o : Option D) (i : Nat) (τ : Env) : R D := match o with
  | some (.obj b c ns xs) => m0B (As.lookup c) m b c ns xs i τ
  | _ => .bad
def eMeth0 (As : List (Str × (List D → CR))) (m : Str) (i : Nat) : ME := fun τ => m0A As m (τ.getD i none) i τ
theorem e_meth0 {m : Str} {o : Expr} {apos pos : Pos} {As : List (Str × (List D → CR))} {i k j : Nat} {pl : Sem Bool} (c : XOk X W) (hAs : MAll X.prog X.w X.K X.mg X.base B.ca k m As) (hr : Room j X.A) (ho : PE X o (tVar i)) (hk : k ≤ j := by decide)
    (ht : eval (.Call (.Attribute o m apos) [] [] pos) X.env = (do
      let ov ← eval o X.env
      standAt apos.atName
      let (f, first) ← holding [ov] (getMethod ov m pl)
      callWith pos f first (backTo pos (starEach [] X.env)) (backToKw pos (keywordEach [] X.env))) := by rfl) :
    PE X (.Call (.Attribute o m apos) [] [] pos) (rdE X.K B W (eMeth0 As m i)) := by
  refine ⟨fun pins s σ H Q I h => ?_⟩
  obtain ⟨F', τ, vs, ds, st, p⟩ := h
  unfold eMeth0 m0A at p
  split at p
  · rename_i b cc ns xs e0
    unfold m0B at p
    split at p
    · rename_i g eg
      by_cases nc : ns.contains m = true
      · rw [if_pos nc] at p; exact p.elim
      · rw [if_neg nc] at p
        obtain ⟨⟨k', f, fd, ps, hk', hm, hb, G⟩, cl⟩ := hAs.get eg
        refine (pe_meth0 (E := E0) (pl := pl) ho cl hm G (hr.mono (Nat.le_trans hk' hk)) hb .nil passL ht).run pins s σ H Q I ?_
        obtain ⟨v, k1, s1⟩ := st.take (getD_some e0)
        have hx : ∃ a dx ws, v = .ref a ∧ H a = some (.ins (B.ca cc) dx (ns.zip ws)) := by
          obtain ⟨f', r⟩ := s1.top
          cases b with
          | true => obtain ⟨a, dx, fs, ws, g', rfl, hx, rfl, _⟩ := r; exact ⟨a, dx, ws, rfl, hx⟩
          | false => obtain ⟨⟨a, dx, fs, ws, rfl, hx, rfl, _⟩, _⟩ := r; exact ⟨a, dx, ws, rfl, st.same _ _ hx⟩
        obtain ⟨a, dx, ws, rfl, hx⟩ := hx
        refine ⟨.ref a, k1, a, dx, _, rfl, hx, lookup_zip_none (by simpa using nc), ?_⟩
        obtain ⟨F2, sm, ⟨_, _, e2, r, r2⟩, s2⟩ := StT.freeze (us := [.ref a]) (es := [.obj b cc ns xs]) s1 rfl
        cases e2
        refine ⟨F2, [freeze (.obj b cc ns xs)], s2.same, ⟨_, [], rfl, r, rfl⟩, ?_⟩
        unfold m0C at p
        split at p
        · rename_i d eg'
          rw [eg']
          exact fun v F' H' f k1 k2 k3 k4 k5 k6 k7 => p v F' H' (s2.called k1 k2 k3 k4 k5 k6 k7)
        · exact p.elim
    · exact p.elim
  · exact p.elim
/-! ### a comparison whose second part is only looked at -/
def e2Z (g : D → D → Option D) (m : ME) (n : MZ) : ME := fun τ => (m τ).bind fun a τ1 => ofO ((n τ1).bind fun b => g a b) τ1
theorem imp2EZ {r : R2} {g : D → D → Option D} {m : ME} {n : MZ} (hs : OpS X.K r g) (σ : L2.St) (H : Hp) (Q : VK) (h : rdE X.K B W (e2Z g m n) σ H Q) : tOp r (rdE X.K B W m) (rdZ X.K B n) σ H Q := by
  obtain ⟨F, τ, vs, ds, s, p⟩ := h
  refine ⟨F, τ, vs, ds, s, post_imp (post_bind p) (fun a τ1 q x F1 H1 s1 => ?_) fun _ _ q => q⟩
  obtain ⟨d, e, z, q⟩ := post_ofO q
  obtain ⟨b, eb, e⟩ := bind_some e
  refine ⟨F1, τ1, _, _, s1, b, eb, fun y f2 hy => ?_⟩
  obtain ⟨f1, hx⟩ := s1.top
  exact hs _ _ _ _ _ _ _ _ _ _ _ s1.same hx hy e fun v f hv => q v F1 H1 (s1.pop.push ((repO_fz z).mp hv).1)
theorem e_cmpY {op : CmpOp} {a b : Expr} {pos : Pos} {r : R2} {g : D → D → Option D} {m : ME} {n : MZ} (ho : OpR X (compareOp op) r) (hs : OpS X.K r g) (ha : PE X a (rdE X.K B W m)) (hb : PE X b (rdZ X.K B n)) (hm : behindInMarks op b = false := by first | exact nomark _ | rfl) : PE X (.Compare a [op] [b] pos) (rdE X.K B W (e2Z g m n)) := PE.imp (pe_cmpR ho ha hb hm) (imp2EZ hs)
theorem t_cmpY {op : CmpOp} {a b : Expr} {pos : Pos} {r : R2} {g : D → D → Option D} {m : ME} {n : MZ} (ho : OpR X (compareOp op) r) (hs : OpS X.K r g) (ha : PE X a (rdE X.K B W m)) (hb : PE X b (rdZ X.K B n)) (hm : behindInMarks op b = false := by first | exact nomark _ | rfl) : PT X (.Compare a [op] [b] pos) (rdT X.K B W (tE (e2Z g m n))) :=
  PT.imp (pt_cmpR ho ha hb hm) fun σ H Q h => imp2EZ hs σ H _ (impTE σ H Q h)
end
/-! ### a tuple that owns its parts -/
section
variable {X : Cx} {B : Bx} {W : WX}
theorem StT.newTupO {K : PySem.W.Frag} {F H : Hp} {σ : L2.St} {τ : Env} {us vs : List V} {es ds : List D} (s : StT K B F H σ τ (us ++ vs) (es ++ ds)) (hl : us.length = es.length) {p : Addr} (hp : H p = none) : StT K B (upd F p (.tup us)) (upd H p (.tup us)) σ τ (.ref p :: vs) (.tpo es :: ds) := by
  obtain ⟨s', sm⟩ := s.new (o := .tup us) hp
  obtain ⟨f1, f2, a, b, w, io⟩ := s'
  obtain ⟨g1, g2, b1, b2, q⟩ := b.split' hl
  exact ⟨f1, f2, a, ⟨.ref p, vs, g1, g2, rfl, ⟨p, us, rfl, .inl (.inl upd_same), b1⟩, b2, q⟩, w, io⟩
def eTupW (m : MA) : ME := fun τ => (m τ).bind fun ds τ1 => if ds.length ≤ 1000000 then .ok (.tpo ds) τ1 else .bad
theorem e_tupW {es : List Expr} {k : Nat} {pos : Pos} {m : MA} (h : PA X es (rdA X.K B W m)) : PE X (.Tuple es k pos) (rdE X.K B W (eTupW m)) := PE.imp (pe_tup h) fun σ H Q h => by
  obtain ⟨F, τ, vs, ds, s, p⟩ := h
  refine ⟨F, τ, vs, ds, s, post_imp (post_bind p) (fun es τ1 q us F1 H1 hl s1 => ?_) fun _ _ q => q⟩
  by_cases z : es.length ≤ 1000000
  · simp only [z, if_true] at q
    exact ⟨le_sizeLine (hl ▸ z), fun p hp => q _ _ _ (s1.newTupO hl hp)⟩
  · simp only [z] at q; exact False.elim q
def gTW (n : Nat) (g : List D → Env → Option Env) : D → Env → Option Env := fun d τ => match d with
  | .tpo es => if es.length = n then g es τ else none
  | _ => none
theorem g_tupW {es : List Expr} {k : Nat} {pos : Pos} {sl : List Nat} {g : List D → Env → Option Env} {n : Nat} (hc : X.calm = true) (h : PGs X es (rdGs X.K B sl g)) (hn : (assignEach es X.env).length = n := by rfl) (hst : (assignEach es X.env).findIdx? (·.1) = none := by rfl) : PG X (.Tuple es k pos) (rdG X.K B sl (gTW n g)) :=
  PG.imp (pg_tup hc h hn hst) fun v σ H Q ⟨F, τ, vs, ds, d, s, τ', e, k⟩ => by
    cases d with
    | tpo xs =>
      by_cases hl : xs.length = n
      · have e' : g xs τ = some τ' := by
          have e' : (if xs.length = n then g xs τ else none) = some τ' := e
          rw [if_pos hl] at e'; exact e'
        have sm := s.same
        obtain ⟨f1, f2, A, ⟨_, _, g1, g2, e2, r, b, q⟩, w, io⟩ := s
        cases e2
        obtain ⟨a, us, rfl, h1, h2⟩ := r
        have hul := h2.length
        refine ⟨a, us, rfl, sqT_same sm h1, hul.trans hl, F, τ, vs, ds, xs, hul, ?_, τ', e', k⟩
        have b2 := h2.append b
        have e3 : (fun b => g1 b + g2 b) = f2 := funext fun b => (q b).symm
        rw [e3] at b2
        exact ⟨f1, f2, A, b2, w, io⟩
      · have e' : (if xs.length = n then g xs τ else none) = some τ' := e
        rw [if_neg hl] at e'; cases e'
    | _ => cases e
end
theorem x_tupW {m : MA} {τ : Env} : eTupW m τ = (m τ).bind fun ds τ1 => if ds.length ≤ 1000000 then .ok (.tpo ds) τ1 else .bad := rfl
theorem x_gTW {n : Nat} {g : List D → Env → Option Env} {es : List D} {τ : Env} : gTW n g (.tpo es) τ = if es.length = n then g es τ else none := rfl
/-! ### a part is taken out of a tuple that owns it -/
section
variable {X : Cx} {B : Bx} {W : WX}
theorem RepOs.get_le {K : PySem.W.Frag} {ca : Str → Addr} {F H : Hp} : ∀ {ds : List D} {vs : List V} {f : Ct} {i : Nat} {d : D}, RepOs K ca F H ds vs f → ds[i]? = some d → ∃ v g, vs[i]? = some v ∧ RepO K ca F H d v g ∧ ∀ b, g b ≤ f b
  | [], _, _, _, _, _, e => by simp at e
  | d :: _, _, _, 0, _, ⟨v, r, f1, f2, h1, h2, h3, h4⟩, e => by simp at e; subst e; subst h1; exact ⟨v, f1, rfl, h2, fun b => by rw [h4]; omega⟩
  | _ :: _, _, _, i + 1, d, ⟨v, r, f1, f2, h1, h2, h3, h4⟩, e => by
    subst h1
    obtain ⟨v', g, k1, k2, k3⟩ := h3.get_le (i := i) (by simpa using e)
    exact ⟨v', g, by simpa using k1, k2, fun b => by have := k3 b; rw [h4]; omega⟩
def tkD (a b : D) (τ : Env) : R D := match a, b with
  | .tpo xs, .int i => (match atI xs i with
    | some d => .ok d τ
    | none => .bad)
  | _, _ => .bad
def eTk (m n : ME) : ME := fun τ => (m τ).bind fun a τ1 => (n τ1).bind fun b τ2 => tkD a b τ2
theorem impTk {m n : ME} (σ : L2.St) (H : Hp) (Q : VK) (h : rdE X.K B W (eTk m n) σ H Q) : tOp (rIx X.K) (rdE X.K B W m) (rdE X.K B W n) σ H Q := by
  obtain ⟨F, τ, vs, ds, s, p⟩ := h
  refine ⟨F, τ, vs, ds, s, post_imp (post_bind p) (fun a τ1 q x F1 H1 s1 => ⟨F1, τ1, _, _, s1, post_imp (post_bind q) (fun b τ2 q y F2 H2 s2 => ?_) fun c τ2 q F2 H2 s2 => q F2 H2 s2.pop⟩) fun _ _ q => q⟩
  cases a with
  | tpo xs =>
    cases b with
    | int i =>
      cases e : atI xs i with
      | none => simp only [tkD, e] at q; exact q.elim
      | some d =>
        simp only [tkD, e] at q
        have hy : y = .int i := s2.topF rfl
        have sm := s2.same
        obtain ⟨f1, f2, A, ⟨_, _, g1, g2, e2, r, b, qq⟩, w, io⟩ := s2.pop
        cases e2
        obtain ⟨p, us, rfl, h1, h2⟩ := r
        obtain ⟨j, v, k1, k2, k3⟩ := atI_get h2.length e
        obtain ⟨v', g', l1, l2, l3⟩ := h2.get_le k1
        rw [k2] at l1; cases l1
        exact .inr (.inl ⟨p, us, i, v, rfl, hy, sqT_same sm h1, k3, q v F2 H2 ⟨f1, fun b => g' b + g2 b, A, ⟨v, vs, g', g2, rfl, l2, b, fun _ => rfl⟩, w.less fun b => by show f1 b + (g' b + g2 b) ≤ f1 b + f2 b; have := l3 b; rw [qq]; omega, io⟩⟩)
    | _ => exact False.elim q
  | _ => exact False.elim q
theorem e_tk {a b : Expr} {pos : Pos} {m n : ME} (ho : IxR X (rIx X.K)) (ha : PE X a (rdE X.K B W m)) (hb : PE X b (rdE X.K B W n)) (hp : PlainIx b := by exact fun _ _ => rfl) : PE X (.Subscript a b pos) (rdE X.K B W (eTk m n)) := PE.imp (pe_ix ho ha hb hp) impTk
end
theorem x_tk {m n : ME} {τ : Env} : eTk m n τ = (m τ).bind fun a τ1 => (n τ1).bind fun b τ2 => tkD a b τ2 := rfl
/-! ### a part of an owned list or tuple is changed where it stands: x[c].append(e), x[c][k] = e -/
section
variable {K : PySem.W.Frag} {ca : Str → Addr} {F H : Hp}
theorem os_out {d : D} : ∀ {xs : List D} {vs : List V} {f : Ct} {n : Nat}, RepOs K ca F H xs vs f → xs[n]? = some d → ∃ w p1 p2, vs[n]? = some w ∧ RepO K ca F H d w p1 ∧ (RepOs K ca F H (xs.set n (.val w)) vs p2) ∧ ∀ b, f b = p1 b + p2 b
  | [], _, _, _, _, e => by simp at e
  | x :: xs, _, f, 0, ⟨v, r, f1, f2, h1, h2, h3, h4⟩, e => by
    subst h1
    have e : x = d := by simpa using e
    subst e
    exact ⟨v, f1, f2, rfl, h2, ⟨v, r, fun _ => 0, f2, rfl, ⟨rfl, fun _ => rfl⟩, h3, fun b => by show f2 b = 0 + f2 b; omega⟩, h4⟩
  | x :: xs, _, f, n + 1, ⟨v, r, f1, f2, h1, h2, h3, h4⟩, e => by
    subst h1
    obtain ⟨w, p1, p2, k1, k2, k3, k4⟩ := os_out h3 (n := n) (by simpa using e)
    exact ⟨w, p1, fun b => f1 b + p2 b, by simpa using k1, k2, ⟨v, r, f1, p2, rfl, h2, k3, fun _ => rfl⟩, fun b => by show f b = p1 b + (f1 b + p2 b); rw [h4, k4]; omega⟩
theorem os_in {e : D} {w : V} {g1 : Ct} (k : RepO K ca F H e w g1) : ∀ {xs : List D} {vs : List V} {g2 : Ct} {n : Nat}, n < xs.length → RepOs K ca F H (xs.set n (.val w)) vs g2 → ∃ g, RepOs K ca F H (xs.set n e) vs g ∧ ∀ b, g b = g1 b + g2 b
  | [], _, _, _, h, _ => absurd h (by simp)
  | x :: xs, _, _, 0, _, ⟨v, r, f1, f2, h1, h2, h3, h4⟩ => by
    subst h1
    have hv : v = w := h2.1
    subst hv
    exact ⟨fun b => g1 b + f2 b, ⟨v, r, g1, f2, rfl, k, h3, fun _ => rfl⟩, fun b => by show g1 b + f2 b = g1 b + _; rw [h4]; have := h2.2 b; omega⟩
  | x :: xs, _, _, n + 1, hn, ⟨v, r, f1, f2, h1, h2, h3, h4⟩ => by
    subst h1
    obtain ⟨g, k1, k2⟩ := os_in k (n := n) (by simpa using hn) h3
    exact ⟨fun b => f1 b + g b, ⟨v, r, f1, g, rfl, h2, k1, fun _ => rfl⟩, fun b => by show f1 b + g b = g1 b + _; rw [h4, k2]; omega⟩
end
def conD : D → Option (List D)
  | .lst true xs => some xs
  | .tpo xs => some xs
  | _ => none
def withD : D → List D → D
  | .lst true _, ys => .lst true ys
  | .tpo _, ys => .tpo ys
  | d, _ => d
section
variable {K : PySem.W.Frag} {B : Bx} {F H : Hp} {σ : L2.St} {τ : Env} {vs us : List V} {ds es : List D} {v : V} {d : D}
theorem StT.partOut {i : Nat} {c : D} {xs : List D} {j : Int} {n : Nat} (s : StT K B F H σ τ vs ds) (e : τ[i]? = some (some c)) (hc : conD c = some xs) (hj : ixN xs.length j = some n) (l : xs[n]? = some d) :
    ∃ (a : Addr) (ws : List V) (w : V), σ[i]? = some (some (.ref a)) ∧ (SqL K H a ws ∨ SqT K H a ws) ∧ atI ws j = some w ∧ StT K B F H σ (τ.set i none) (w :: .ref a :: vs) (d :: withD c (xs.set n (.val w)) :: ds) := by
  obtain ⟨v, k1, s1⟩ := s.take e
  have sm := s.same
  obtain ⟨f1, f2, A, ⟨_, _, g1, g2, e2, h, b, q⟩, w, io⟩ := s1
  cases e2
  have at_ : ∀ {ws : List V} {w0 : V}, ws.length = xs.length → ws[n]? = some w0 → atI ws j = some w0 := fun {ws w0} h1 h2 => by
    unfold atI
    rw [h1, hj]; exact h2
  cases c with
  | lst m ys =>
    cases m with
    | true =>
      cases (show some ys = some xs from hc)
      obtain ⟨a, ws, g, rfl, hx, h5, h6⟩ := h
      obtain ⟨w0, p1, p2, q1, q2, q3, q4⟩ := os_out h5 l
      refine ⟨a, ws, w0, k1, .inl (sqOf hx), at_ h5.length q1, f1, fun b => p1 b + (((if b = a then 1 else 0) + p2 b) + g2 b), A, ⟨w0, _, p1, _, rfl, q2, ⟨.ref a, vs, fun b => (if b = a then 1 else 0) + p2 b, g2, rfl, ⟨a, ws, p2, rfl, hx, q3, fun _ => rfl⟩, b, fun _ => rfl⟩, fun _ => rfl⟩, ?_, io⟩
      have e3 : (fun b => f1 b + (p1 b + (((if b = a then 1 else 0) + p2 b) + g2 b))) = fun b => f1 b + f2 b := funext fun b => by rw [q, h6, q4]; omega
      rw [e3]; exact w
    | false => cases hc
  | tpo ys =>
    cases (show some ys = some xs from hc)
    obtain ⟨a, ws, rfl, hx, h5⟩ := h
    obtain ⟨w0, p1, p2, q1, q2, q3, q4⟩ := os_out h5 l
    refine ⟨a, ws, w0, k1, .inr (sqT_same sm hx), at_ h5.length q1, f1, fun b => p1 b + (p2 b + g2 b), A, ⟨w0, _, p1, _, rfl, q2, ⟨.ref a, vs, p2, g2, rfl, ⟨a, ws, rfl, hx, q3⟩, b, fun _ => rfl⟩, fun _ => rfl⟩, ?_, io⟩
    have e3 : (fun b => f1 b + (p1 b + (p2 b + g2 b))) = fun b => f1 b + f2 b := funext fun b => by rw [q, q4]; omega
    rw [e3]; exact w
  | _ => cases hc
theorem StT.partIn {i : Nat} {a : Addr} {c e : D} {xs : List D} {w : V} {n : Nat} (s : StT K B F H σ τ (w :: .ref a :: vs) (e :: withD c (xs.set n (.val w)) :: ds)) (hc : conD c = some xs) (hn : n < xs.length) (hv : σ[i]? = some (some (.ref a))) (hi : i < τ.length) : StT K B F H σ (τ.set i (some (withD c (xs.set n e)))) vs ds := by
  obtain ⟨f1, f2, A, ⟨_, _, g1, g2, e2, h, ⟨_, _, g3, g4, e3, h', b, q'⟩, q⟩, wd, io⟩ := s
  cases e2
  cases e3
  have s2 : StT K B F H σ τ (.ref a :: vs) (withD c (xs.set n e) :: ds) := by
    cases c with
    | lst m ys =>
      cases m with
      | true =>
        obtain ⟨a', ws, g, ea, hx, h5, h6⟩ := h'
        cases ea
        obtain ⟨g5, k1, k2⟩ := os_in h hn h5
        refine ⟨f1, fun b => ((if b = a then 1 else 0) + g5 b) + g4 b, A, ⟨.ref a, vs, fun b => (if b = a then 1 else 0) + g5 b, g4, rfl, ⟨a, ws, g5, rfl, hx, k1, fun _ => rfl⟩, b, fun _ => rfl⟩, ?_, io⟩
        have e4 : (fun b => f1 b + (((if b = a then 1 else 0) + g5 b) + g4 b)) = fun b => f1 b + f2 b := funext fun b => by rw [q, q', h6, k2]; omega
        rw [e4]; exact wd
      | false => cases hc
    | tpo ys =>
      obtain ⟨a', ws, ea, hx, h5⟩ := h'
      cases ea
      obtain ⟨g5, k1, k2⟩ := os_in h hn h5
      refine ⟨f1, fun b => g5 b + g4 b, A, ⟨.ref a, vs, g5, g4, rfl, ⟨a, ws, rfl, hx, k1⟩, b, fun _ => rfl⟩, ?_, io⟩
      have e4 : (fun b => f1 b + (g5 b + g4 b)) = fun b => f1 b + f2 b := funext fun b => by rw [q, q', k2]; omega
      rw [e4]; exact wd
    | _ => cases hc
  exact s2.putBack hi hv
end
def appX3 (i : Nat) (c : D) (xs es : List D) (n : Nat) (r : R D) : SR := if es.length < 1000000 then r.s fun d τ1 => .nx (τ1.set i (some (withD c (xs.set n (.lst true (es ++ [d])))))) else .bad
def appX2 (i : Nat) (c : D) (xs : List D) (n : Nat) (o : Option D) (r : R D) : SR := match o with
  | some (.lst true es) => appX3 i c xs es n r
  | _ => .bad
def appX1 (i : Nat) (c : D) (xs : List D) (j : Int) (r : R D) : SR := match ixN xs.length j with
  | some n => appX2 i c xs n xs[n]? r
  | none => .bad
def appX0 (i : Nat) (c : Option D) (k : Option D) (r : R D) : SR := match c, k with
  | some c, some (.int j) => (match conD c with
    | some xs => appX1 i c xs j r
    | none => .bad)
  | _, _ => .bad
def sAppX (i : Nat) (mi : MZ) (m : ME) : MS := fun τ => appX0 i (τ.getD i none) (mi τ) (m (τ.set i none))
def setX3 (i : Nat) (c : D) (xs : List D) (n : Nat) (o : Option (List D)) (τ : Env) : SR := match o with
  | some es' => .nx (τ.set i (some (withD c (xs.set n (.lst true es')))))
  | none => .bad
def setX2 (i : Nat) (c : D) (xs : List D) (n : Nat) (o : Option D) (k : Option D) (d : D) (τ : Env) : SR := match o, k with
  | some (.lst true es), some (.int k) => setX3 i c xs n (setD es k d) τ
  | _, _ => .bad
def setX1 (i : Nat) (c : D) (xs : List D) (j : Int) (k : Option D) (d : D) (τ : Env) : SR := match ixN xs.length j with
  | some n => setX2 i c xs n xs[n]? k d τ
  | none => .bad
def setX0 (i : Nat) (c : Option D) (j : Option D) (k : Option D) (d : D) (τ : Env) : SR := match c, j with
  | some c, some (.int j) => (match conD c with
    | some xs => setX1 i c xs j k d τ
    | none => .bad)
  | _, _ => .bad
def sSetIxX (i : Nat) (mj mi : MZ) (m : ME) : MS := fun τ => (m τ).s fun d τ1 => setX0 i (τ1.getD i none) (mj τ1) (mi τ1) d τ1
section
variable {X : Cx} {B : Bx} {W : WX}
theorem ix_val {p : Addr} {ws : List V} {w : V} {j : Int} {H : Hp} {Q : VK} (h : SqL X.K H p ws ∨ SqT X.K H p ws) (e : atI ws j = some w) (q : Q w H) : rIx X.K (.ref p) (.int j) H Q := by
  rcases h with h | h
  · exact .inl ⟨p, ws, j, w, rfl, rfl, h, e, q⟩
  · exact .inr (.inl ⟨p, ws, j, w, rfl, rfl, h, e, q⟩)
theorem s_appX {i : Nat} {o b e : Expr} {fp apos cpos pos : Pos} {mi : MZ} {m : ME} (hx : IxR X (rIx X.K)) (ho : PE X o (tVar i)) (hi : PE X b (rdZ X.K B mi)) (he : PE X e (rdE X.K B W m)) (hp : PlainIx b := by exact fun _ _ => rfl)
    (hbase : attributeBase (.Subscript o b fp) "append" X.env (eval (.Subscript o b fp) X.env) = eval (.Subscript o b fp) X.env := by rfl)
    (hfew : ((backTo cpos (starEach [e] X.env)).all (fun x => !x.1) && (backToKw cpos (keywordEach [] X.env)).all (fun x => x.1.isSome)
      && decide ([e].length + ([] : List Keyword).length + (if ([] : List Keyword).isEmpty then 0 else 1) < 30)) = true := by rfl)
    (hline : (apos.endLine == cpos.line) = true := by rfl) (hs : starEach [e] X.env = (false, eval e X.env) :: starEach [] X.env := by rfl) (hplain : (backTo cpos (starEach [] X.env)).any (·.1) = false := by rfl)
    (hsw : swapsWith (.Call (.Attribute (.Subscript o b fp) "append" apos) [e] [] cpos) none pos.line X.env = pure false := by rfl) : PS X (.Expr (.Call (.Attribute (.Subscript o b fp) "append" apos) [e] [] cpos) pos) (rdS X.K B W (sAppX i mi m)) :=
  PS.imp (ps_expr (pe_bm PySem.F.plainAttrs_list PySem.F.slot_list_append PySem.F.type_list_append mt_append (pe_ix hx ho hi hp) (pa_cons he pa_nil hs) hbase hfew hline hs hplain) hsw) fun D σ H ⟨F, τ, vs, ds, s, p⟩ => by
    unfold sAppX appX0 at p
    split at p
    · rename_i c j e0 ej
      split at p
      · rename_i xs hc
        unfold appX1 at p
        split at p
        · rename_i n hn
          unfold appX2 at p
          split at p
          · rename_i es l
            unfold appX3 at p
            by_cases hl : es.length < 1000000
            · rw [if_pos hl] at p
              obtain ⟨a, ws, w, k1, k2, k3, s1⟩ := s.partOut (getD_some e0) hc hn l
              have nl : n < xs.length := (List.getElem?_eq_some_iff.mp l).1
              obtain ⟨g, a', us, g', rfl, h2, h3, _⟩ := s1.top
              refine ⟨.ref a, k1, F, τ, vs, ds, s, .int j, ej, fun y fy hy => ?_⟩
              obtain rfl : y = V.int j := hy.1
              refine ix_val k2 k3 ?_
              refine .inl ⟨rfl, us, sqOf h2⟩ |> fun hh => ⟨hh, F, _, _, _, s1, post_imp (post_s (σ := σ) p) (fun d τ1 q y F1 H1 s2 => ?_) fun c τ1 q F1 H1 s2 => q F1 H1 s2.pop.pop⟩
              have s3 := StT.swap (us := [y]) (es := [d]) s2 rfl
              obtain ⟨f, a2, us', g, ea, hx, hg, _⟩ := s3.top
              cases ea
              refine ⟨a', us', y, rfl, rfl, hx, by rw [hg.length, sizeLine_eq]; omega, ?_⟩
              have s4 := s3.change (us := [y]) (ds := [d]) (ys := us' ++ [y]) (es2 := es ++ [d]) rfl hx fun g1 g2 r1 r2 => ⟨_, r1.append r2, fun b => Nat.le_refl _⟩
              have s5 := s4.partIn (i := i) hc nl k1 (by rw [← slen s4]; exact (List.getElem?_eq_some_iff.mp k1).1)
              exact q σ F1 _ s5
            · rw [if_neg hl] at p; exact p.elim
          · exact p.elim
        · exact p.elim
      · exact p.elim
    · exact p.elim
theorem s_setIxX {i : Nat} {o b ix e : Expr} {fp pos pos' : Pos} {mj mi : MZ} {m : ME} (hx : IxR X (rIx X.K)) (ho : PE X o (tVar i)) (hj : PE X b (rdZ X.K B mj)) (hi : PE X ix (rdZ X.K B mi)) (he : PE X e (rdE X.K B W m)) (hp : PlainIx b := by exact fun _ _ => rfl)
    (hs : swapsWithSole [.Subscript (.Subscript o b fp) ix pos'] e pos.line X.env = pure false := by rfl) (hw : swappedStores [.Subscript (.Subscript o b fp) ix pos'] e X.env = pure none := by rfl)
    (h1 : (assignEach [.Subscript (.Subscript o b fp) ix pos'] X.env).map (·.2) = [assign (.Subscript (.Subscript o b fp) ix pos') X.env] := by rfl)
    (ha : ∀ v, assign (.Subscript (.Subscript o b fp) ix pos') X.env v = (do
      let ov ← holding [v] (eval (.Subscript o b fp) X.env)
      let iv ← holding [v, ov] (eval ix X.env)
      standAt pos'
      holding [v, ov, iv] (setItem ov iv v)
      release [v, ov, iv] []) := by intro _; rfl) : PS X (.Assign [.Subscript (.Subscript o b fp) ix pos'] e pos) (rdS X.K B W (sSetIxX i mj mi m)) :=
  PS.imp (ps_asg he (pg_sub (pe_ix hx ho hj hp) hi set_list ha) hs hw h1) fun D σ H ⟨F, τ, vs, ds, s, p⟩ => by
    refine ⟨F, τ, vs, ds, s, post_imp (post_s (σ := σ) p) (fun d τ1 q y F1 H1 s1 => ?_) fun _ _ q => q⟩
    replace q : postS X.K B W vs ds D (setX0 i (τ1.getD i none) (mj τ1) (mi τ1) d τ1) := q
    unfold setX0 at q
    split at q
    · rename_i c j e0 ej
      split at q
      · rename_i xs hc
        unfold setX1 at q
        split at q
        · rename_i n hn
          unfold setX2 at q
          split at q
          · rename_i es k l ek
            cases e3 : ixN es.length k with
            | none => unfold setX3 setD at q; rw [e3] at q; exact q.elim
            | some jj =>
              unfold setX3 setD at q; rw [e3] at q
              replace q : postS X.K B W vs ds D (SR.nx (τ1.set i (some (withD c (xs.set n (.lst true (es.set jj d))))))) := q
              obtain ⟨a, ws, w, k1, k2, k3, s2⟩ := s1.partOut (getD_some e0) hc hn l
              have nl : n < xs.length := (List.getElem?_eq_some_iff.mp l).1
              obtain ⟨g, a', us, g', rfl, h2, h3, _⟩ := s2.top
              refine ⟨.ref a, k1, F1, τ1, _, _, s1, .int j, ej, fun y0 fy hy => ?_⟩
              obtain rfl : y0 = V.int j := hy.1
              refine ix_val k2 k3 ?_
              refine ⟨F1, τ1, _, _, s1, .int k, ek, fun w fw hw => ?_⟩
              obtain rfl : w = V.int k := hw.1
              refine ⟨a', us, k, jj, rfl, rfl, h2, by rw [h3.length]; exact e3, ?_⟩
              have s3 : StT X.K B F1 H1 σ (τ1.set i none) (.ref a' :: .ref a :: y :: vs) (.lst true es :: withD c (xs.set n (.val (.ref a'))) :: d :: ds) := s2
              have s4 : StT X.K B F1 H1 σ (τ1.set i none) (.ref a' :: y :: .ref a :: vs) (.lst true es :: d :: withD c (xs.set n (.val (.ref a'))) :: ds) := by
                have t1 := StT.swap (us := [.ref a', .ref a]) (es := [.lst true es, withD c (xs.set n (.val (.ref a')))]) s3 rfl
                exact StT.swap (us := [y]) (es := [d]) t1 rfl
              have s5 := s4.change (us := [y]) (ds := [d]) (ys := us.set jj y) (es2 := es.set jj d) rfl h2 fun g1 g2 r1 r2 => by
                obtain ⟨_, r, f1, f2, ey, q1, q2, q3⟩ := r2
                cases ey
                obtain ⟨g, k1, k2⟩ := RepOs.set q1 jj r1
                exact ⟨g, k1, fun b => by have := k2 b; have := q3 b; have := q2.2 b; omega⟩
              have s6 := s5.partIn (i := i) hc nl k1 (by rw [← slen s5]; exact (List.getElem?_eq_some_iff.mp k1).1)
              rw [List.set_set] at s6
              exact q σ F1 _ s6
          · exact q.elim
        · exact q.elim
      · exact q.elim
    · exact q.elim
end
end Bn
namespace Bn
open PySem PySem.Spec PyProof.Rows L2
/-! ### a walk over an owned list whose parts the loop's name may change -/
section
variable {K : PySem.W.Frag} {B : Bx} {F H : Hp} {σ : L2.St} {τ : Env} {vs : List V} {ds : List D} {v : V} {d : D}
theorem StT.topOut {c : D} {xs : List D} {n : Nat} (s : StT K B F H σ τ (v :: vs) (c :: ds)) (hc : conD c = some xs) (l : xs[n]? = some d) :
    ∃ (a : Addr) (ws : List V) (w : V), v = .ref a ∧ (SqL K H a ws ∨ SqT K H a ws) ∧ ws.length = xs.length ∧ ws[n]? = some w ∧ StT K B F H σ τ (w :: .ref a :: vs) (d :: withD c (xs.set n (.val w)) :: ds) := by
  have sm := s.same
  obtain ⟨f1, f2, A, ⟨_, _, g1, g2, e2, h, b, q⟩, w, io⟩ := s
  cases e2
  cases c with
  | lst m ys =>
    cases m with
    | true =>
      cases (show some ys = some xs from hc)
      obtain ⟨a, ws, g, rfl, hx, h5, h6⟩ := h
      obtain ⟨w0, p1, p2, q1, q2, q3, q4⟩ := os_out h5 l
      refine ⟨a, ws, w0, rfl, .inl (sqOf hx), h5.length, q1, f1, fun b => p1 b + (((if b = a then 1 else 0) + p2 b) + g2 b), A, ⟨w0, _, p1, _, rfl, q2, ⟨.ref a, vs, fun b => (if b = a then 1 else 0) + p2 b, g2, rfl, ⟨a, ws, p2, rfl, hx, q3, fun _ => rfl⟩, b, fun _ => rfl⟩, fun _ => rfl⟩, ?_, io⟩
      have e3 : (fun b => f1 b + (p1 b + (((if b = a then 1 else 0) + p2 b) + g2 b))) = fun b => f1 b + f2 b := funext fun b => by rw [q, h6, q4]; omega
      rw [e3]; exact w
    | false => cases hc
  | tpo ys =>
    cases (show some ys = some xs from hc)
    obtain ⟨a, ws, rfl, hx, h5⟩ := h
    obtain ⟨w0, p1, p2, q1, q2, q3, q4⟩ := os_out h5 l
    refine ⟨a, ws, w0, rfl, .inr (sqT_same sm hx), h5.length, q1, f1, fun b => p1 b + (p2 b + g2 b), A, ⟨w0, _, p1, _, rfl, q2, ⟨.ref a, vs, p2, g2, rfl, ⟨a, ws, rfl, hx, q3⟩, b, fun _ => rfl⟩, fun _ => rfl⟩, ?_, io⟩
    have e3 : (fun b => f1 b + (p1 b + (p2 b + g2 b))) = fun b => f1 b + f2 b := funext fun b => by rw [q, q4]; omega
    rw [e3]; exact w
  | _ => cases hc
theorem StT.topOutL {xs : List D} {n : Nat} (s : StT K B F H σ τ (v :: vs) (.lst true xs :: ds)) (l : xs[n]? = some d) :
    ∃ (a : Addr) (ws : List V) (w : V), v = .ref a ∧ H a = some (.lst ws) ∧ ws[n]? = some w ∧ StT K B F H σ τ (w :: .ref a :: vs) (d :: .lst true (xs.set n (.val w)) :: ds) := by
  obtain ⟨f1, f2, A, ⟨_, _, g1, g2, e2, h, b, q⟩, w, io⟩ := s
  cases e2
  obtain ⟨a, ws, g, rfl, hx, h5, h6⟩ := h
  obtain ⟨w0, p1, p2, q1, q2, q3, q4⟩ := os_out h5 l
  refine ⟨a, ws, w0, rfl, hx, q1, f1, fun b => p1 b + (((if b = a then 1 else 0) + p2 b) + g2 b), A, ⟨w0, _, p1, _, rfl, q2, ⟨.ref a, vs, fun b => (if b = a then 1 else 0) + p2 b, g2, rfl, ⟨a, ws, p2, rfl, hx, q3, fun _ => rfl⟩, b, fun _ => rfl⟩, fun _ => rfl⟩, ?_, io⟩
  have e3 : (fun b => f1 b + (p1 b + (((if b = a then 1 else 0) + p2 b) + g2 b))) = fun b => f1 b + f2 b := funext fun b => by rw [q, h6, q4]; omega
  rw [e3]; exact w
theorem StT.topIn {a : Addr} {c e : D} {xs : List D} {w : V} {n : Nat} (s : StT K B F H σ τ (w :: .ref a :: vs) (e :: withD c (xs.set n (.val w)) :: ds)) (hc : conD c = some xs) (hn : n < xs.length) : StT K B F H σ τ (.ref a :: vs) (withD c (xs.set n e) :: ds) := by
  obtain ⟨f1, f2, A, ⟨_, _, g1, g2, e2, h, ⟨_, _, g3, g4, e3, h', b, q'⟩, q⟩, wd, io⟩ := s
  cases e2
  cases e3
  cases c with
  | lst m ys =>
    cases m with
    | true =>
      obtain ⟨a', ws, g, ea, hx, h5, h6⟩ := h'
      cases ea
      obtain ⟨g5, k1, k2⟩ := os_in h hn h5
      refine ⟨f1, fun b => ((if b = a then 1 else 0) + g5 b) + g4 b, A, ⟨.ref a, vs, fun b => (if b = a then 1 else 0) + g5 b, g4, rfl, ⟨a, ws, g5, rfl, hx, k1, fun _ => rfl⟩, b, fun _ => rfl⟩, ?_, io⟩
      have e4 : (fun b => f1 b + (((if b = a then 1 else 0) + g5 b) + g4 b)) = fun b => f1 b + f2 b := funext fun b => by rw [q, q', h6, k2]; omega
      rw [e4]; exact wd
    | false => cases hc
  | tpo ys =>
    obtain ⟨a', ws, ea, hx, h5⟩ := h'
    cases ea
    obtain ⟨g5, k1, k2⟩ := os_in h hn h5
    refine ⟨f1, fun b => g5 b + g4 b, A, ⟨.ref a, vs, g5, g4, rfl, ⟨a, ws, rfl, hx, k1⟩, b, fun _ => rfl⟩, ?_, io⟩
    have e4 : (fun b => f1 b + (g5 b + g4 b)) = fun b => f1 b + f2 b := funext fun b => by rw [q, q', k2]; omega
    rw [e4]; exact wd
  | _ => cases hc
end
def fxB (j : Nat) (r : SR) : Option (D × Env) := match r with
  | .nx τ2 => (τ2.getD j none).map fun d => (d, τ2.set j none)
  | .ct τ2 => (τ2.getD j none).map fun d => (d, τ2.set j none)
  | _ => none
def fxL (j : Nat) (b : MS) : List D → List D → Env → Option (List D × Env)
  | done, [], τ => some (done, τ)
  | done, d :: r, τ => if j < τ.length then (fxB j (b (τ.set j (some d)))).bind fun p => fxL j b (done ++ [p.1]) r p.2 else none
def fxS (i : Nat) (o : Option (List D × Env)) : SR := match o with
  | some p => .nx (p.2.set i (some (.lst true p.1)))
  | none => .bad
def fxD (o : Option D) (i j : Nat) (b : MS) (τ : Env) : SR := match o with
  | some (.lst true es) => fxS i (fxL j b [] es (τ.set i none))
  | _ => .bad
def sForX (i j : Nat) (b : MS) : MS := fun τ => fxD (τ.getD i none) i j b τ
section
variable {X : Cx} {B : Bx} {W : WX}
theorem s_forX {i j : Nat} {tg it : Expr} {body : List Stmt} {pos : Pos} {b : MS} (c : XOk X W) (hi : PE X it (tVar i)) (hg : PG X tg (gName j)) (hb : ∀ a v, PSs X body (rdS X.K ⟨B.ca, B.F0, B.R, (j, v) :: (i, a) :: B.io⟩ W b)) (hij : i ≠ j)
    (hio : ioFree B j := by first | (intro p hp; cases hp; done) | (intro p hp; simp only [List.mem_cons, List.not_mem_nil, or_false] at hp; rcases hp with rfl | rfl <;> simp) | (intro p hp; simp only [List.mem_cons, List.not_mem_nil, or_false] at hp; rcases hp with rfl | rfl | rfl <;> simp) | (intro p hp; simp only [List.mem_cons, List.not_mem_nil, or_false] at hp; subst hp; simp))
    (hs : ∀ x, foldedSetIterable it X.env x = pure x := by intro _; rfl) : PS X (.For tg it body [] pos) (rdS X.K B W (sForX i j b)) := by
  have hb' : PSs X body (fun D σ H => ∃ a v, rdS X.K ((B.io1 i a).io1 j v) W b D σ H) := ⟨fun p s σ H D I q => by
    obtain ⟨a, v, q⟩ := q
    exact (hb a v).run p s σ H D I q⟩
  refine PS.imp (ps_for c.hp c.calm (pi_list hi) hg hb' hs) fun D' σ H ⟨F, τ, vs, ds, s, p⟩ => ?_
  unfold sForX fxD at p
  cases e0 : τ.getD i none with
  | none => rw [e0] at p; exact p.elim
  | some d0 =>
    rw [e0] at p
    cases d0 with
    | lst mm es =>
      cases mm with
      | false => exact p.elim
      | true =>
        replace p : postS X.K B W vs ds D' (fxS i (fxL j b [] es (τ.set i none))) := p
        obtain ⟨v, h1, s1⟩ := s.take (getD_some e0)
        obtain ⟨f, a, us, g', rfl, h2, _⟩ := s1.top
        refine ⟨.ref a, h1, a, rfl, ⟨us, sqOf h2⟩, ?_⟩
        have s1 := s1.io1 h1
        refine ⟨fun n m σ H => ∃ done rest F τ, m = rest.length ∧ done.length = n ∧ StT X.K (B.io1 i (.ref a)) F H σ τ (.ref a :: vs) (.lst true (done ++ rest) :: ds) ∧ postS X.K B W vs ds D' (fxS i (fxL j b done rest τ)), ⟨_, [], es, F, τ.set i none, rfl, rfl, s1, p⟩, ?_⟩
        rintro n m σ H ⟨done, rest, F, τ, rfl, hn, s, p⟩
        cases rest with
        | nil =>
          left
          obtain ⟨f, a2, us, g', ea, h2, h3, _⟩ := s.top
          cases ea
          refine ⟨⟨us, sqOf h2, by rw [h3.length, List.append_nil]; omega⟩, ?_⟩
          obtain ⟨q1, q2⟩ := s.io0
          rw [List.append_nil] at q2
          exact p σ F H (q2.putBack (by rw [← q2.len]; exact (List.getElem?_eq_some_iff.mp q1).1) q1)
        | cons d rest =>
          right
          have hl : (done ++ d :: rest)[n]? = some d := by rw [List.getElem?_append_right (by omega), hn, Nat.sub_self]; rfl
          obtain ⟨a2, ws, w, ea, hx, hw, s2⟩ := s.topOutL hl
          cases ea
          refine ⟨⟨ws, w, sqOf hx, hw⟩, fun σ' H' => ∃ done' F' τ', done'.length = n + 1 ∧ StT X.K (B.io1 i (.ref a)) F' H' σ' τ' (.ref a :: vs) (.lst true (done' ++ rest) :: ds) ∧ postS X.K B W vs ds D' (fxS i (fxL j b done' rest τ')), ?_, ?_⟩
          · rintro σ' H' ⟨done', F', τ', k1, k2, k3⟩
            exact ⟨rest.length, Nat.lt_succ_self _, done', rest, F', τ', rfl, k1, k2, k3⟩
          · rintro x H' ⟨rfl, hy⟩
            have hx2 := hy ws (sqOf hx)
            rw [hw] at hx2
            cases hx2
            have hio2 : ioFree (B.io1 i (.ref a)) j := fun q hq => by
              rcases List.mem_cons.mp hq with rfl | hq
              · exact hij
              · exact hio q hq
            replace p : postS X.K B W vs ds D' (fxS i (if j < τ.length then (fxB j (b (τ.set j (some d)))).bind fun q => fxL j b (done ++ [q.1]) rest q.2 else none)) := p
            have hjl : j < τ.length := by
              by_cases q : j < τ.length
              · exact q
              · rw [if_neg q] at p; exact p.elim
            rw [if_pos hjl] at p
            have hjs : (σ.set j (some w))[j]? = some (some w) := by rw [List.getElem?_set_self (by rw [s2.len]; exact hjl)]
            have s3 := (s2.put hjl hio2).io1 hjs
            refine ⟨.ref a, w, F, τ.set j (some d), _, _, s3, ?_⟩
            have key : ∀ {τ2 : Env}, ((τ2.getD j none).map fun d => (d, τ2.set j none)) = fxB j (b (τ.set j (some d))) → ∀ σ2 F2 H2, StT X.K ((B.io1 i (.ref a)).io1 j w) F2 H2 σ2 τ2 (.ref a :: vs) (.lst true ((done ++ d :: rest).set n (.val w)) :: ds) → ∃ done' F' τ', done'.length = n + 1 ∧ StT X.K (B.io1 i (.ref a)) F' H2 σ2 τ' (.ref a :: vs) (.lst true (done' ++ rest) :: ds) ∧ postS X.K B W vs ds D' (fxS i (fxL j b done' rest τ')) := fun {τ2} e σ2 F2 H2 s4 => by
              rw [← e] at p
              obtain ⟨q1, s5⟩ := s4.io0
              cases e5 : τ2.getD j none with
              | none => rw [e5] at p; exact p.elim
              | some d' =>
                rw [e5] at p
                obtain ⟨v5, k1, s6⟩ := s5.take (getD_some e5)
                rw [q1] at k1
                cases k1
                have s7 := StT.topIn (c := .lst true (done ++ d :: rest)) s6 rfl (by rw [List.length_append, List.length_cons]; omega)
                have e6 : (done ++ d :: rest).set n d' = (done ++ [d']) ++ rest := by
                  rw [List.set_append, if_neg (by omega), hn, Nat.sub_self, List.set_cons_zero, List.append_assoc]; rfl
                have s8 : StT X.K (B.io1 i (.ref a)) F2 H2 σ2 (τ2.set j none) (.ref a :: vs) (.lst true ((done ++ d :: rest).set n d') :: ds) := s7
                rw [e6] at s8
                exact ⟨done ++ [d'], F2, τ2.set j none, by rw [List.length_append, hn]; rfl, s8, p⟩
            cases eb : b (τ.set j (some d)) with
            | nx τ2 => exact fun σ2 F2 H2 s4 => key (by rw [eb]; rfl) σ2 F2 H2 s4
            | ct τ2 => exact fun σ2 F2 H2 s4 => key (by rw [eb]; rfl) σ2 F2 H2 s4
            | rt d2 τ2 => rw [eb] at p; exact p.elim
            | ex c2 τ2 => rw [eb] at p; exact p.elim
            | bk τ2 => rw [eb] at p; exact p.elim
            | bad => rw [eb] at p; exact p.elim
    | _ => exact p.elim
/-! ### list(..) of a list that is only looked at -/
def lzR (o : Option D) (τ : Env) : R D := match o with
  | some (.lst true es) => if es.all isFz = true then .ok (.lst true es) τ else .bad
  | _ => .bad
def eLstZ (m : MZ) : ME := fun τ => lzR (m τ) τ
theorem e_lstZ {m : MZ} {x : Str} {p pos : Pos} {e : Expr} (hg : Gl X x) (hm : X.mg x = none) (hv : bootBuiltins x = some (.type "list")) (hi : PE X e (rdZ X.K B m)) (hn : x ≠ "__name__" := by decide) (hdb : (x == ("__debug__" : Str)) = false := by decide)
    (he : starEach [e] X.env = (false, eval e X.env) :: starEach [] X.env := by rfl) (hpl : (backTo pos (starEach [] X.env)).any (·.1) = false := by rfl) : PE X (.Call (.Name x p) [e] [] pos) (rdE X.K B W (eLstZ m)) := PE.imp (pe_callTy call_list_of hg hm hv (pa_cons hi pa_nil he) hn hdb he hpl) fun σ H Q ⟨F, τ, vs, ds, s, k⟩ => by
  unfold eLstZ lzR at k
  cases e0 : m τ with
  | none => rw [e0] at k; exact k.elim
  | some d0 =>
    rw [e0] at k
    cases d0 with
    | lst mm es =>
      cases mm with
      | false => exact k.elim
      | true =>
        replace k : post _ _ (if es.all isFz = true then R.ok (D.lst true es) τ else R.bad) := k
        by_cases z : es.all isFz = true
        · rw [if_pos z] at k
          replace k : ∀ (v : V) (F' H' : Hp), StT X.K B F' H' σ τ (v :: vs) (.lst true es :: ds) → Q v H' := k
          refine ⟨F, τ, vs, ds, s, _, e0, fun v f r => ?_⟩
          obtain ⟨a, us, g, ev, q1, q2, _⟩ := r
          subst ev
          have q3 := RepOs.allF z q2
          refine ⟨a, us, rfl, .inl (sqOf q1), fun np hnp => ?_⟩
          exact k _ _ _ ((s.pushL q3).newLst q3.length hnp)
        · rw [if_neg z] at k; exact k.elim
    | _ => exact k.elim
end
/-! ### x[c][k].append(e) -/
def axx4 (i : Nat) (c : D) (xs : List D) (n : Nat) (c2 : D) (ys : List D) (n2 : Nat) (o : Option D) (r : R D) : SR := match o with
  | some (.lst true es) => if es.length < 1000000 then r.s fun d τ1 => .nx (τ1.set i (some (withD c (xs.set n (withD c2 (ys.set n2 (.lst true (es ++ [d])))))))) else .bad
  | _ => .bad
def axx3 (i : Nat) (c : D) (xs : List D) (n : Nat) (c2 : D) (ys : List D) (j2 : Int) (r : R D) : SR := match ixN ys.length j2 with
  | some n2 => axx4 i c xs n c2 ys n2 ys[n2]? r
  | none => .bad
def axx2 (i : Nat) (c : D) (xs : List D) (n : Nat) (o : Option D) (k2 : Option D) (r : R D) : SR := match o, k2 with
  | some c2, some (.int j2) => (match conD c2 with
    | some ys => axx3 i c xs n c2 ys j2 r
    | none => .bad)
  | _, _ => .bad
def axx1 (i : Nat) (c : D) (xs : List D) (j : Int) (k2 : Option D) (r : R D) : SR := match ixN xs.length j with
  | some n => axx2 i c xs n xs[n]? k2 r
  | none => .bad
def axx0 (i : Nat) (c : Option D) (k k2 : Option D) (r : R D) : SR := match c, k with
  | some c, some (.int j) => (match conD c with
    | some xs => axx1 i c xs j k2 r
    | none => .bad)
  | _, _ => .bad
def sAppXX (i : Nat) (mi mj : MZ) (m : ME) : MS := fun τ => axx0 i (τ.getD i none) (mi τ) (mj τ) (m (τ.set i none))
section
variable {X : Cx} {B : Bx} {W : WX}
theorem s_appXX {i : Nat} {o b b2 e : Expr} {fp fp2 apos cpos pos : Pos} {mi mj : MZ} {m : ME} (hx : IxR X (rIx X.K)) (ho : PE X o (tVar i)) (hi : PE X b (rdZ X.K B mi)) (hj : PE X b2 (rdZ X.K B mj)) (he : PE X e (rdE X.K B W m)) (hp : PlainIx b := by exact fun _ _ => rfl) (hp2 : PlainIx b2 := by exact fun _ _ => rfl)
    (hbase : attributeBase (.Subscript (.Subscript o b fp) b2 fp2) "append" X.env (eval (.Subscript (.Subscript o b fp) b2 fp2) X.env) = eval (.Subscript (.Subscript o b fp) b2 fp2) X.env := by rfl)
    (hfew : ((backTo cpos (starEach [e] X.env)).all (fun x => !x.1) && (backToKw cpos (keywordEach [] X.env)).all (fun x => x.1.isSome)
      && decide ([e].length + ([] : List Keyword).length + (if ([] : List Keyword).isEmpty then 0 else 1) < 30)) = true := by rfl)
    (hline : (apos.endLine == cpos.line) = true := by rfl) (hs : starEach [e] X.env = (false, eval e X.env) :: starEach [] X.env := by rfl) (hplain : (backTo cpos (starEach [] X.env)).any (·.1) = false := by rfl)
    (hsw : swapsWith (.Call (.Attribute (.Subscript (.Subscript o b fp) b2 fp2) "append" apos) [e] [] cpos) none pos.line X.env = pure false := by rfl) : PS X (.Expr (.Call (.Attribute (.Subscript (.Subscript o b fp) b2 fp2) "append" apos) [e] [] cpos) pos) (rdS X.K B W (sAppXX i mi mj m)) :=
  PS.imp (ps_expr (pe_bm PySem.F.plainAttrs_list PySem.F.slot_list_append PySem.F.type_list_append mt_append (pe_ix hx (pe_ix hx ho hi hp) hj hp2) (pa_cons he pa_nil hs) hbase hfew hline hs hplain) hsw) fun D σ H ⟨F, τ, vs, ds, s, p⟩ => by
    unfold sAppXX axx0 at p
    split at p
    · rename_i c j e0 ej
      split at p
      · rename_i xs hc
        unfold axx1 at p
        split at p
        · rename_i n hn
          unfold axx2 at p
          split at p
          · rename_i c2 j2 l ej2
            split at p
            · rename_i ys hc2
              unfold axx3 at p
              split at p
              · rename_i n2 hn2
                unfold axx4 at p
                split at p
                · rename_i es l2
                  by_cases hl : es.length < 1000000
                  · rw [if_pos hl] at p
                    obtain ⟨v0, k1, s0⟩ := s.take (getD_some e0)
                    obtain ⟨a, ws, w, rfl, k2, k3, k4, s1⟩ := s0.topOut hc l
                    obtain ⟨a2, ws2, w2, rfl, k5, k6, k7, s2⟩ := s1.topOut hc2 l2
                    have nl : n < xs.length := (List.getElem?_eq_some_iff.mp l).1
                    have nl2 : n2 < ys.length := (List.getElem?_eq_some_iff.mp l2).1
                    have at1 : atI ws j = some (.ref a2) := by unfold atI; rw [k3, hn]; exact k4
                    have at2 : atI ws2 j2 = some w2 := by unfold atI; rw [k6, hn2]; exact k7
                    obtain ⟨g, a', us, g', rfl, h2, h3, _⟩ := s2.top
                    refine ⟨.ref a, k1, F, τ, vs, ds, s, .int j, ej, fun y fy hy => ?_⟩
                    obtain rfl : y = V.int j := hy.1
                    refine ix_val k2 at1 ?_
                    refine ⟨F, τ, vs, ds, s, .int j2, ej2, fun y fy hy => ?_⟩
                    obtain rfl : y = V.int j2 := hy.1
                    refine ix_val k5 at2 ?_
                    refine .inl ⟨rfl, us, sqOf h2⟩ |> fun hh => ⟨hh, F, _, _, _, s2, post_imp (post_s (σ := σ) p) (fun d τ1 q y F1 H1 s3 => ?_) fun c τ1 q F1 H1 s3 => q F1 H1 s3.pop.pop.pop⟩
                    have s3 := StT.swap (us := [y]) (es := [d]) s3 rfl
                    obtain ⟨f, a3, us', g, ea, hx, hg, _⟩ := s3.top
                    cases ea
                    refine ⟨a', us', y, rfl, rfl, hx, by rw [hg.length, sizeLine_eq]; omega, ?_⟩
                    have s4 := s3.change (us := [y]) (ds := [d]) (ys := us' ++ [y]) (es2 := es ++ [d]) rfl hx fun g1 g2 r1 r2 => ⟨_, r1.append r2, fun b => Nat.le_refl _⟩
                    have s5 := (s4.topIn hc2 nl2).topIn hc nl
                    exact q σ F1 _ (s5.putBack (i := i) (by rw [← slen s5]; exact (List.getElem?_eq_some_iff.mp k1).1) k1)
                  · rw [if_neg hl] at p; exact p.elim
                · exact p.elim
              · exact p.elim
            · exact p.elim
          · exact p.elim
        · exact p.elim
      · exact p.elim
    · exact p.elim
end
end Bn
namespace Bn
open PySem PySem.Spec PyProof.Rows L2
/-! ### xs.count(x) -/
section
variable {X : Cx}
def rCountD (K : PySem.W.Frag) : V → List V → Hp → VK → Prop := fun x xs H Q => ∃ (a : Addr) (y : V) (d : PyData) (ds : List PyData), x = V.ref a ∧ xs = [y] ∧ Dp K H (V.ref a) (.list ds) ∧ Dp K H y d ∧
  SeqAt.shaped (.list ds) = true ∧ SeqAt.shaped d = true ∧ Q (.int ((ds.countP fun z => PyData.eqv z d : Nat) : Int)) H
theorem mt_countD (hu : X.A.units + 65 < cLine) : MtR X "list.count" (rCountD X.K) := by
  intro pins s σ H x xs v us Q I rx rxs h
  obtain ⟨a, y, d, ds, rfl, rfl, hl, hy, sl, sd, q⟩ := h
  cases rx
  cases rxs with
  | cons ry rt =>
    rename_i uy ut
    cases rt
    obtain ⟨bs, r1⟩ := Dp.reads I d y uy hy ry
    have hxs : PyData.canLayAll0 ds = true := SeqAt.canLay_of_shaped sl
    have hroom : X.A.units + 1 + min (PyData.depthAll ds) d.depth < cLine := room_in_shaped sd hu
    cases hl with
    | lst hs ha =>
      obtain ⟨its, rv, ⟨⟨cls, dd, data, sls⟩, n, ho, hc, hdn, hdt⟩, hlen⟩ := I.list hs
      simp only at hc hdt
      subst hc hdt
      obtain ⟨as, h4⟩ := Dp.readsAll I ds _ its ha rv
      have hmap : its.map (SeqAt.readOf s.heap) = ds := SeqAt.readsAll_map ds its as hxs h4
      refine call_meets PySem.F.slot_list_count ⟨_, ho, rfl⟩ PySem.F.entry_list_count (PySem.F.args_list_count_2 _ _)
        (SeqAt.list_countAt a its.toArray n dd sls uy (fun u => PyData.eqv (SeqAt.readOf s.heap u) d)) ⟨ho, SeqAt.items_eqAt (vs := its.toArray) (show ReadsAll s.heap its.toArray.toList ds as from h4) r1 hxs (SeqAt.canLay_of_shaped sd) hroom, ?_⟩
      have e : its.toArray.toList.countP (fun u => PyData.eqv (SeqAt.readOf s.heap u) d) = ds.countP fun z => PyData.eqv z d := by
        rw [← hmap, List.countP_map]; rfl
      rw [e]
      exact ⟨.int _, H, I.tok _, ⟨_, rfl⟩, q⟩
end
def gCount (b a : D) : Option D := match b with
  | .lst m xs => if okP a = true ∧ okP (.lst m xs) = true then some (.int (((toPs xs).countP fun z => PyData.eqv z (toP a) : Nat) : Int)) else none
  | _ => none
section
variable {X : Cx} {B : Bx} {W : WX}
theorem z_count {k : Nat} {o e : Expr} {apos cpos : Pos} {m n : MZ} (hr : Room k X.A) (ho : PE X o (rdZ X.K B m)) (he : PE X e (rdZ X.K B n))
    (hbase : attributeBase o "count" X.env (eval o X.env) = eval o X.env := by rfl)
    (hfew : ((backTo cpos (starEach [e] X.env)).all (fun x => !x.1) && (backToKw cpos (keywordEach [] X.env)).all (fun x => x.1.isSome)
      && decide ([e].length + ([] : List Keyword).length + (if ([] : List Keyword).isEmpty then 0 else 1) < 30)) = true := by rfl)
    (hline : (apos.endLine == cpos.line) = true := by rfl) (hs : starEach [e] X.env = (false, eval e X.env) :: starEach [] X.env := by rfl) (hplain : (backTo cpos (starEach [] X.env)).any (·.1) = false := by rfl) :
    PE X (.Call (.Attribute o "count" apos) [e] [] cpos) (rdZ X.K B (z2 gCount m n)) :=
  PE.imp (pe_bm PySem.F.plainAttrs_list PySem.F.slot_list_count PySem.F.type_list_count (mt_countD (units65 hr)) ho (pa_cons he pa_nil hs) hbase hfew hline hs hplain) fun σ H Q ⟨F, τ, vs, ds, s, d, e, q⟩ => by
    obtain ⟨b, eb, e⟩ := bind_some e
    obtain ⟨a, ea, e⟩ := bind_some e
    refine ⟨F, τ, vs, ds, s, b, eb, fun x f1 hx => ?_⟩
    cases b with
    | lst mm xs =>
      replace e : (if okP a = true ∧ okP (.lst mm xs) = true then some (D.int (((toPs xs).countP fun z => PyData.eqv z (toP a) : Nat) : Int)) else none) = some d := e
      by_cases c : okP a = true ∧ okP (.lst mm xs) = true
      · rw [if_pos c] at e
        cases e
        have c1 := c.1
        have c2 := c.2
        unfold okP at c1 c2
        rw [Bool.and_eq_true] at c1 c2
        have hD := RepO.dp (K := X.K) s.same _ x f1 c2.1 hx
        have hx' : ∃ a us, x = .ref a ∧ SqL X.K H a us := by
          cases mm with
          | true => obtain ⟨a, us, g, rfl, h2, _⟩ := hx; exact ⟨a, us, rfl, sqOf h2⟩
          | false => obtain ⟨⟨a, us, rfl, h2, _⟩, _⟩ := hx; exact ⟨a, us, rfl, sqOf (s.same _ _ h2)⟩
        obtain ⟨ad, us, rfl, hsq⟩ := hx'
        refine ⟨.inl ⟨rfl, us, hsq⟩, F, τ, vs, ds, s, a, ea, fun y f2 hy => ?_⟩
        exact ⟨ad, y, toP a, toPs xs, rfl, rfl, hD, RepO.dp s.same a y f2 c1.1 hy, c2.2, c1.2, q (.int _) _ (Rep.o (d := .int _) rfl)⟩
      · rw [if_neg c] at e; cases e
    | _ => cases e
end
end Bn
namespace Bn
open PySem PySem.Spec PyProof.Rows L2
/-! ### dicts: {}, k in d, d[k] = e -/
section
variable {K : PySem.W.Frag} {B : Bx} {F H : Hp} {σ : L2.St} {τ : Env} {vs us : List V} {ds es : List D} {v y : V} {d : D}
theorem StT.newDct (s : StT K B F H σ τ vs ds) {p : Addr} (hp : H p = none) : StT K B F (upd H p (.dK [])) σ τ (.ref p :: vs) (.dct true [] [] :: ds) := by
  obtain ⟨f1, f2, a, b, w, io⟩ := s
  have k1 : ∀ x, 0 < f1 x → upd H p (.dK []) x = H x := fun x hx => upd_ne fun e => a.there x hx (e ▸ hp)
  have k3 : ∀ x, 0 < f2 x → upd H p (.dK []) x = H x := fun x hx => upd_ne fun e => b.there _ _ _ x hx (e ▸ hp)
  have z : f1 p + f2 p = 0 := by
    have h1 : ¬ 0 < f1 p := fun h => a.there p h hp
    have h2 : ¬ 0 < f2 p := fun h => b.there _ _ _ p h hp
    omega
  refine ⟨f1, fun b => ((if b = p then 1 else 0) + 0) + f2 b, a.mono (Same.refl _) k1, ⟨.ref p, vs, fun b => (if b = p then 1 else 0) + 0, f2, rfl, ⟨p, [], fun _ => 0, rfl, upd_same, rfl, ⟨rfl, fun _ => rfl⟩, fun _ => rfl⟩, RepOs.mono (Same.refl _) _ _ _ k3 b, fun _ => rfl⟩, ?_, io⟩
  have e : (fun b => f1 b + (((if b = p then 1 else 0) + 0) + f2 b)) = fun b => (if b = p then 1 else 0) + (f1 b + f2 b) := funext fun b => by omega
  rw [e]
  exact w.owned hp z
end
def eDct : ME := fun τ => .ok (.dct true [] []) τ
section
variable {X : Cx} {B : Bx} {W : WX}
theorem e_dct {pos : Pos} : PE X (.Dict [] [] pos) (rdE X.K B W eDct) := PE.imp pe_dnewK fun σ H Q ⟨F, τ, vs, ds, s, p⟩ => fun q hq => p (.ref q) F (upd H q (.dK [])) (s.newDct hq)
end
/-- k in d -/
def rDIn (neg : Bool) : R2 := fun x y H Q => ∃ a o, y = .ref a ∧ DGet H a x o ∧ Q (.bl (if neg = true then !o.isSome else o.isSome)) H
theorem op_dIn {X : Cx} (hu : X.A.units + 65 < cLine) : OpR X (compareOp .In) (rDIn false) := by
  intro pins s σ H x y v u Q I rx ry h
  obtain ⟨a, o, rfl, g, q⟩ := h
  obtain rfl : u = Value.ref a := ry
  exact d_in (by omega) I g rx fun s3 I3 => ⟨.bl o.isSome, H, I3, rfl, q⟩
theorem op_dNotIn {X : Cx} (hu : X.A.units + 65 < cLine) : OpR X (compareOp .NotIn) (rDIn true) := by
  intro pins s σ H x y v u Q I rx ry h
  obtain ⟨a, o, rfl, g, q⟩ := h
  obtain rfl : u = Value.ref a := ry
  exact d_notIn (by omega) I g rx fun s3 I3 => ⟨.bl (!o.isSome), H, I3, rfl, q⟩
def memK (k : Key) (ks : List Key) : Bool := ks.any fun k' => decide (k' = k)
theorem valV_zip {k : Key} : ∀ {ks : List Key} {us : List V}, ks.length = us.length → (valV (ks.zip us) k).isSome = memK k ks
  | [], us, _ => rfl
  | k' :: ks, [], h => by cases h
  | k' :: ks, u :: us, h => by
    rw [List.zip_cons_cons]
    show _ = (decide (k' = k) || memK k ks)
    by_cases e : k' = k
    · rw [valV_pos (p := (k', u)) e, decide_eq_true e]; rfl
    · rw [valV_neg (p := (k', u)) e, valV_zip (by simpa using h), decide_eq_false e, Bool.false_or]
def gDIn (neg : Bool) (a b : D) : Option D := match a, b with
  | .int k, .dct true ks _ => some (.bl (if neg = true then !memK (.inl k) ks else memK (.inl k) ks))
  | _, _ => none
theorem sDIn {K : PySem.W.Frag} {neg : Bool} : OpS K (rDIn neg) (gDIn neg) := by
  intro ca F H x y a b d f1 f2 Q sm hx hy e q
  unfold gDIn at e
  split at e
  · rename_i k ks xs
    cases e
    obtain rfl : x = V.int k := hx.1
    obtain ⟨p, us, g, rfl, h2, h3, _⟩ := hy
    refine ⟨p, _, rfl, DGet.k (k := .inl k) h2, ?_⟩
    rw [valV_zip h3]
    exact q _ (fun _ => 0) ⟨rfl, fun _ => rfl⟩
  · cases e
/-- d[k] = e, for what never changes -/
def dputK (ks : List Key) (k : Key) : List Key := if memK k ks = true then ks else ks ++ [k]
def dputX {α : Type} (ks : List Key) (xs : List α) (k : Key) (d : α) : List α := if memK k ks = true then ks.zipWith (fun k' x => if k' = k then d else x) xs else xs ++ [d]
theorem zw_len {α : Type} (k : Key) (d : α) : ∀ (ks : List Key) (xs : List α), ks.length = xs.length → (ks.zipWith (fun k' x => if k' = k then d else x) xs).length = ks.length
  | [], _, _ => rfl
  | _ :: _, [], h => by cases h
  | k' :: ks, x :: xs, h => by rw [List.zipWith_cons_cons, List.length_cons, List.length_cons, zw_len k d ks xs (by simpa using h)]
theorem dput_len {α : Type} {ks : List Key} {xs : List α} (k : Key) (d : α) (h : ks.length = xs.length) : (dputK ks k).length = (dputX ks xs k d).length := by
  unfold dputK dputX
  split
  · rw [zw_len k d ks xs h]
  · rw [List.length_append, List.length_append, h]; rfl
theorem putK_zip {k : Key} {y : V} : ∀ {ks : List Key} {us : List V}, ks.length = us.length → putK (ks.zip us) k y = (dputK ks k).zip (dputX ks us k y) := fun {ks us} h => by
  unfold putK dputK dputX
  rw [valV_any, valV_zip h]
  by_cases c : memK k ks = true
  · rw [if_pos c, if_pos c, if_pos c]
    clear c
    induction ks generalizing us with
    | nil => rfl
    | cons k' ks ih =>
      cases us with
      | nil => cases h
      | cons u us =>
        rw [List.zip_cons_cons, List.map_cons, List.zipWith_cons_cons, List.zip_cons_cons, ih (by simpa using h)]
        by_cases e : k' = k
        · rw [if_pos e, if_pos e]
        · rw [if_neg e, if_neg e]
  · rw [if_neg c, if_neg c, if_neg c, List.zip_append h]; rfl
section
variable {K : PySem.W.Frag} {B : Bx} {F H : Hp} {σ : L2.St} {τ : Env} {vs : List V} {ds : List D} {y : V} {d : D}
theorem os_zw {ca : Str → Addr} {k : Key} (r : RepO K ca F H d y (fun _ => 0)) : ∀ {ks : List Key} {xs : List D} {us : List V} {g : Ct}, RepOs K ca F H xs us g → ∃ g', RepOs K ca F H (ks.zipWith (fun k' x => if k' = k then d else x) xs) (ks.zipWith (fun k' u => if k' = k then y else u) us) g' ∧ ∀ b, g' b ≤ g b
  | [], _, _, _, _ => ⟨fun _ => 0, ⟨rfl, fun _ => rfl⟩, fun _ => Nat.zero_le _⟩
  | k' :: ks, [], us, g, h => by
    obtain ⟨rfl, h⟩ := h
    exact ⟨fun _ => 0, ⟨rfl, fun _ => rfl⟩, fun _ => Nat.zero_le _⟩
  | k' :: ks, x :: xs, us, g, ⟨u, us', f1, f2, e, h1, h2, h3⟩ => by
    subst e
    obtain ⟨g', k1, k2⟩ := os_zw r (ks := ks) h2
    rw [List.zipWith_cons_cons, List.zipWith_cons_cons]
    by_cases c : k' = k
    · rw [if_pos c, if_pos c]
      exact ⟨fun b => 0 + g' b, ⟨y, _, fun _ => 0, g', rfl, r, k1, fun _ => rfl⟩, fun b => by show 0 + g' b ≤ g b; have := h3 b; have := k2 b; omega⟩
    · rw [if_neg c, if_neg c]
      exact ⟨fun b => f1 b + g' b, ⟨u, _, f1, g', rfl, h1, k1, fun _ => rfl⟩, fun b => by show f1 b + g' b ≤ g b; have := h3 b; have := k2 b; omega⟩
theorem os_snoc {ca : Str → Addr} (r : RepO K ca F H d y (fun _ => 0)) : ∀ {xs : List D} {us : List V} {g : Ct}, RepOs K ca F H xs us g → RepOs K ca F H (xs ++ [d]) (us ++ [y]) g := fun {xs us g} h => by
  have h2 : RepOs K ca F H [d] [y] (fun _ => 0) := ⟨y, [], fun _ => 0, fun _ => 0, rfl, r, ⟨rfl, fun _ => rfl⟩, fun _ => rfl⟩
  have := h.append h2
  have e : (fun b => g b + 0) = g := funext fun b => by omega
  rw [e] at this
  exact this
theorem StT.changeD {a : Addr} {ks : List Key} {xs : List D} {us : List V} (s : StT K B F H σ τ (.ref a :: y :: vs) (.dct true ks xs :: d :: ds)) (z : isFz d = true) (hx : H a = some (.dK (ks.zip us))) (hl : ks.length = us.length) (hr : ∃ g, RepOs K B.ca F H xs us g) (k : Key) :
    StT K B F (upd H a (.dK (putK (ks.zip us) k y))) σ τ (.ref a :: vs) (.dct true (dputK ks k) (dputX ks xs k d) :: ds) := by
  obtain ⟨f1, f2, A, ⟨_, _, g1, g2, e, h, ⟨_, _, g4, g5, e5, hy, b2, q2⟩, q⟩, w, io⟩ := s
  cases e
  cases e5
  obtain ⟨a', us', g3, e', hx', hl', h3, q3⟩ := h
  cases e'
  have eu : us' = us := by
    rw [hx] at hx'
    have h9 : ks.zip us = ks.zip us' := by injection hx' with h9; injection h9
    have := congrArg (fun l : List (Key × V) => l.map Prod.snd) h9
    rw [List.map_snd_zip (by omega), List.map_snd_zip (by omega)] at this
    exact this.symm
  subst eu
  have hy0 : RepO K B.ca F H d y (fun _ => 0) := ((repO_fz z).mp hy).1.o
  obtain ⟨g, hg, hle⟩ : ∃ g, RepOs K B.ca F H (dputX ks xs k d) (dputX ks us' k y) g ∧ ∀ b, g b ≤ g3 b := by
    unfold dputX
    split
    · exact os_zw hy0 h3
    · exact ⟨g3, os_snoc hy0 h3, fun _ => Nat.le_refl _⟩
  have one := w.nd a
  have tot : ∀ b, f1 b + f2 b = f1 b + ((if b = a then 1 else 0) + g3 b + (g4 b + g5 b)) := fun b => by rw [q, q3, q2]
  have za : f1 a = 0 ∧ g3 a = 0 ∧ g4 a = 0 ∧ g5 a = 0 := by
    have := tot a
    rw [if_pos rfl] at this
    omega
  have off : ∀ {φ : Ct}, φ a = 0 → ∀ x, 0 < φ x → upd H a (.dK (putK (ks.zip us') k y)) x = H x := fun {φ} hz x hx => upd_ne fun e => by rw [e, hz] at hx; omega
  have zg : g a = 0 := by have := hle a; omega
  refine ⟨f1, fun b => ((if b = a then 1 else 0) + g b) + g5 b, A.mono (Same.refl _) (off za.1), ⟨.ref a, vs, fun b => (if b = a then 1 else 0) + g b, g5, rfl, ⟨a, dputX ks us' k y, g, rfl, by rw [upd_same, putK_zip hl], dput_len k y hl, RepOs.mono (Same.refl _) _ _ _ (off zg) hg, fun _ => rfl⟩,
    RepOs.mono (Same.refl _) _ _ _ (off za.2.2.2) b2, fun _ => rfl⟩, ?_, io⟩
  have w2 : Wd B F H (fun b => f1 b + (((if b = a then 1 else 0) + g b) + g5 b)) := w.less fun b => by
    show f1 b + (((if b = a then 1 else 0) + g b) + g5 b) ≤ f1 b + f2 b
    have := tot b; have := hle b; omega
  have fa : F a = none := w.dF a (by have := tot a; rw [if_pos rfl] at this; show 0 < f1 a + f2 a; omega)
  have ra : B.R a = none := w.dR a (by have := tot a; rw [if_pos rfl] at this; show 0 < f1 a + f2 a; omega)
  exact ⟨w2.nd, w2.dF, w2.dR, fun b x e => by rw [upd_ne (ne_of_none e fa)]; exact w.sF b x e, fun b x e => by rw [upd_ne (ne_of_none e ra)]; exact w.sR b x e, w.s0, w.fr⟩
end
def dpS (i : Nat) (o k : Option D) (d : D) (τ : Env) : SR := match o, k with
  | some (.dct true ks xs), some (.int k) => if isFz d = true ∧ ks.length < 1000000 then .nx (τ.set i (some (.dct true (dputK ks (.inl k)) (dputX ks xs (.inl k) d)))) else .bad
  | _, _ => .bad
def sDPut' (i : Nat) (mk : MZ) (m : ME) : MS := fun τ => (m τ).s fun d τ1 => dpS i (τ1.getD i none) (mk τ1) d τ1
section
variable {X : Cx} {B : Bx} {W : WX}
theorem s_dput {i : Nat} {o ix e : Expr} {pos pos' : Pos} {mk : MZ} {m : ME} (hu : X.A.units + 65 < cLine) (ho : PE X o (tVar i)) (hi : PE X ix (rdZ X.K B mk)) (he : PE X e (rdE X.K B W m)) (hs : swapsWith e (some (.Subscript o ix pos')) pos.line X.env = pure false := by rfl) :
    PS X (.Assign [.Subscript o ix pos'] e pos) (rdS X.K B W (sDPut' i mk m)) :=
  PS.imp (ps_dput (by omega) ho hi he hs) fun D σ H ⟨F, τ, vs, ds, s, p⟩ => by
    refine ⟨F, τ, vs, ds, s, post_imp (post_s (σ := σ) p) (fun d τ1 q y F1 H1 s1 => ?_) fun _ _ q => q⟩
    replace q : postS X.K B W vs ds D (dpS i (τ1.getD i none) (mk τ1) d τ1) := q
    unfold dpS at q
    split at q
    · rename_i ks xs k e0 ek
      by_cases z : isFz d = true ∧ ks.length < 1000000
      · rw [if_pos z] at q
        obtain ⟨v, k1, s2⟩ := s1.take (getD_some e0)
        obtain ⟨f, a, us, g', rfl, h2, h3, h4, _⟩ := s2.top
        refine ⟨.ref a, k1, F1, τ1, _, _, s1, .int k, ek, fun w fw hw => ?_⟩
        obtain rfl : w = V.int k := hw.1
        refine ⟨a, _, rfl, DPut.k (k := .inl k) h2 (by rw [List.length_zip, sizeLine_eq]; omega), ?_⟩
        have s3 := s2.changeD z.1 h2 h3 ⟨g', h4⟩ (.inl k)
        have s4 := s3.putBack (i := i) (by rw [← slen s3]; exact (List.getElem?_eq_some_iff.mp k1).1) k1
        rw [List.set_set] at s4
        exact q σ F1 _ s4
      · rw [if_neg z] at q; exact q.elim
    · exact q.elim
end
end Bn

/-! Plain facts of the functions of trees. -/
namespace Bn
open PySem L2
theorem vAdd (i j : Int) : gAdd (.int i) (.int j) = some (.int (i + j)) := rfl
theorem vSub (i j : Int) : gSub (.int i) (.int j) = some (.int (i - j)) := rfl
theorem vMul {i j : Int} (h : CMulW i j) : gMul (.int i) (.int j) = some (.int (i * j)) := if_pos h
theorem vDiv {i j : Int} (h0 : 0 < j) (h : j.natAbs.log2 < 9000) : gDiv (.int i) (.int j) = some (.int (i / j)) := if_pos ⟨h0, h⟩
theorem vMod {i j : Int} (h : 0 < j) : gMod (.int i) (.int j) = some (.int (i % j)) := if_pos h
theorem vPow {i j : Int} (h : CPow i j) : gPow (.int i) (.int j) = some (.int (i ^ j.toNat)) := if_pos h
theorem vLt (i j : Int) : gLt (.int i) (.int j) = some (.bl (decide (i < j))) := rfl
theorem vLe (i j : Int) : gLe (.int i) (.int j) = some (.bl (decide (i ≤ j))) := rfl
theorem vGt (i j : Int) : gGt (.int i) (.int j) = some (.bl (decide (j < i))) := rfl
theorem vGe (i j : Int) : gGe (.int i) (.int j) = some (.bl (decide (j ≤ i))) := rfl
theorem vNeg (i : Int) : gNeg (.int i) = some (.int (-i)) := rfl
theorem vEq (i j : Int) : gEq (.int i) (.int j) = some (.bl (i == j)) := rfl
theorem vNe (i j : Int) : gNe (.int i) (.int j) = some (.bl (!(i == j))) := rfl
theorem vEq2 (a b c d : Int) : gEq (.tup [.int a, .int b]) (.tup [.int c, .int d]) = some (.bl ((a == c) && ((b == d) && true))) := rfl
theorem vNe2 (a b c d : Int) : gNe (.tup [.int a, .int b]) (.tup [.int c, .int d]) = some (.bl (!((a == c) && ((b == d) && true)))) := rfl
theorem vIx0 (xs : List D) (d : D) : gIx (.tup (d :: xs)) (.int 0) = some d := by
  show atI (d :: xs) 0 = some d
  unfold atI ixN
  rw [if_pos (by decide), if_pos (by simp)]
  rfl
theorem atI_of {α : Type} {xs : List α} {k : Nat} {i : Int} (e : i = (k : Int)) : atI xs i = xs[k]? := by
  subst e
  unfold atI ixN
  rw [if_pos (by omega)]
  by_cases h : (k : Int) < xs.length
  · rw [if_pos h]; simp
  · rw [if_neg h]
    rw [List.getElem?_eq_none (by omega)]; rfl
theorem vIxL (m : Bool) (xs : List D) (k : Nat) : gIx (.lst m xs) (.int k) = xs[k]? := atI_of rfl
theorem vIxC (xs : List D) (k : Nat) : gIx (.cst xs) (.int k) = xs[k]? := atI_of rfl
theorem vIxT (xs : List D) (k : Nat) : gIx (.tup xs) (.int k) = xs[k]? := atI_of rfl
theorem vLenL (m : Bool) (xs : List D) : gLen [.lst m xs] = some (.int xs.length) := rfl
theorem vLenC (xs : List D) : gLen [.cst xs] = some (.int xs.length) := rfl
theorem vLenT (xs : List D) : gLen [.tup xs] = some (.int xs.length) := rfl
/-- sizes: from bounds -/
theorem log2_le {n m : Nat} (h : n < 2 ^ m) : n.log2 ≤ m := by
  by_cases z : n = 0
  · subst z; simp
  · have := (Nat.log2_lt z).mpr h
    omega
theorem mulW {i j : Int} (a b : Nat) (h1 : i.natAbs < 2 ^ a) (h2 : j.natAbs < 2 ^ b) (h : a + b < 1000000) : CMulW i j := by
  have := log2_le h1
  have := log2_le h2
  unfold CMulW
  omega
theorem divW {i j : Int} (b : Nat) (h0 : 0 < j) (h2 : j.natAbs < 2 ^ b) (h : b < 9000) : CDivW i j := by
  have := log2_le h2
  exact ⟨h0, by omega⟩
theorem vIx1 (xs : List D) (d e : D) : gIx (.tup (d :: e :: xs)) (.int 1) = some e := vIxT (d :: e :: xs) 1
section
variable {α β : Type} {τ τ' : Env} {d : D} {ds : List D} {c : Str} {x : Bool} {i : Nat}
def seqR (r : SR) (b : MS) : SR := match r with
  | .nx τ' => b τ' | .rt d τ' => .rt d τ' | .bk τ' => .bk τ' | .ct τ' => .ct τ' | .ex c τ' => .ex c τ' | .bad => .bad
theorem x_seq {a b : MS} : sSeq a b τ = seqR (a τ) b := rfl
theorem x_seq1 {b : MS} : seqR (.nx τ) b = b τ := rfl
theorem x_seq2 {b : MS} : seqR (.rt d τ) b = .rt d τ := rfl
theorem x_seq3 {b : MS} : seqR (.bk τ) b = .bk τ := rfl
theorem x_seq4 {b : MS} : seqR (.ct τ) b = .ct τ := rfl
theorem x_seq5 {b : MS} : seqR (.ex c τ) b = .ex c τ := rfl
theorem x_seq6 {b : MS} : seqR .bad b = .bad := rfl
theorem x_nil : sNil τ = .nx τ := rfl
def ifS (r : R Bool) (a b : MS) : SR := r.s fun x τ1 => if x = true then a τ1 else b τ1
theorem x_if {t : MT} {a b : MS} : sIf t a b τ = ifS (t τ) a b := rfl
theorem x_if1 {a b : MS} : ifS (.ok x τ) a b = if x = true then a τ else b τ := rfl
theorem x_if2 {a b : MS} : ifS (.ex c τ) a b = .ex c τ := rfl
theorem x_if3 {a b : MS} : ifS .bad a b = .bad := rfl
def retS (r : R D) : SR := r.s fun d τ1 => .rt d τ1
theorem x_ret {m : ME} : sRet m τ = retS (m τ) := rfl
theorem x_ret1 : retS (.ok d τ) = .rt d τ := rfl
theorem x_ret2 : retS (.ex c τ) = .ex c τ := rfl
theorem x_ret3 : retS .bad = .bad := rfl
theorem x_retN : sRetN τ = .rt .non τ := rfl
def asgG (o : Option Env) : SR := match o with
  | some τ2 => .nx τ2 | none => .bad
def asgS (r : R D) (g : D → Env → Option Env) : SR := r.s fun d τ1 => asgG (g d τ1)
theorem x_asg {m : ME} {g : D → Env → Option Env} : sAsg m g τ = asgS (m τ) g := rfl
theorem x_asg1 {g : D → Env → Option Env} : asgS (.ok d τ) g = asgG (g d τ) := rfl
theorem x_asg2 {g : D → Env → Option Env} : asgS (.ex c τ) g = .ex c τ := rfl
theorem x_asg3 {g : D → Env → Option Env} : asgS .bad g = .bad := rfl
theorem x_asg4 : asgG (some τ) = .nx τ := rfl
theorem x_asg5 : asgG none = .bad := rfl
theorem x_gN : gN i d τ = some (τ.set i (some d)) := rfl
def dropS (r : R D) : SR := r.s fun _ τ1 => .nx τ1
theorem x_drop {m : ME} : sDrop m τ = dropS (m τ) := rfl
theorem x_drop1 : dropS (.ok d τ) = .nx τ := rfl
theorem x_drop2 : dropS (.ex c τ) = .ex c τ := rfl
theorem x_bk : sBk τ = .bk τ := rfl
theorem x_ct : sCt τ = .ct τ := rfl
theorem x_raise : sRaise c τ = .ex c τ := rfl
def tZ' (o : Option D) (τ : Env) : R Bool := match o with
  | some (.bl b) => .ok b τ | _ => .bad
theorem x_tZ {m : MZ} : tZ m τ = tZ' (m τ) τ := rfl
theorem x_tZ1 : tZ' (some (.bl x)) τ = .ok x τ := rfl
theorem x_tZ2 : tZ' none τ = .bad := rfl
def tE' (r : R D) : R Bool := r.bind fun d τ1 => match d with
  | .bl b => .ok b τ1 | _ => .bad
theorem x_tE {m : ME} : tE m τ = tE' (m τ) := rfl
theorem x_tE1 : tE' (.ok (.bl x) τ) = .ok x τ := rfl
theorem x_tE2 : tE' (.ex c τ) = .ex c τ := rfl
theorem x_tE3 : tE' .bad = .bad := rfl
def andT (r : R Bool) (b : MT) : R Bool := r.bind fun x τ1 => if x = true then b τ1 else .ok false τ1
def orT (r : R Bool) (b : MT) : R Bool := r.bind fun x τ1 => if x = true then .ok true τ1 else b τ1
def notT (r : R Bool) : R Bool := r.bind fun x τ1 => .ok (!x) τ1
theorem x_tAnd {a b : MT} : tAnd a b τ = andT (a τ) b := rfl
theorem x_tAnd1 {b : MT} : andT (.ok x τ) b = if x = true then b τ else .ok false τ := rfl
theorem x_tAnd2 {b : MT} : andT (.ex c τ) b = .ex c τ := rfl
theorem x_tAnd3 {b : MT} : andT .bad b = .bad := rfl
theorem x_tOr {a b : MT} : tOr a b τ = orT (a τ) b := rfl
theorem x_tOr1 {b : MT} : orT (.ok x τ) b = if x = true then .ok true τ else b τ := rfl
theorem x_tOr2 {b : MT} : orT (.ex c τ) b = .ex c τ := rfl
theorem x_tOr3 {b : MT} : orT .bad b = .bad := rfl
theorem x_tNot {a : MT} : tNot a τ = notT (a τ) := rfl
theorem x_tNot1 : notT (.ok x τ) = .ok (!x) τ := rfl
theorem x_tNot2 : notT (.ex c τ) = .ex c τ := rfl
theorem x_tNot3 : notT .bad = .bad := rfl
theorem x_tTrue : tTrue τ = .ok true τ := rfl
def z2' (g : D → D → Option D) (a b : Option D) : Option D := a.bind fun a => b.bind fun b => g a b
theorem x_z2 {g : D → D → Option D} {m n : MZ} : z2 g m n τ = z2' g (m τ) (n τ) := rfl
theorem x_z21 {g : D → D → Option D} {a b : D} : z2' g (some a) (some b) = g a b := rfl
def z1' (g : D → Option D) (a : Option D) : Option D := a.bind g
theorem x_z1 {g : D → Option D} {m : MZ} : z1 g m τ = z1' g (m τ) := rfl
theorem x_z11 {g : D → Option D} {a : D} : z1' g (some a) = g a := rfl
def zCb (g : List D → Option D) (a : Option (List D)) : Option D := a.bind g
theorem x_zC {g : List D → Option D} {m : Env → Option (List D)} : zC' g m τ = zCb g (m τ) := rfl
theorem x_zC1 {g : List D → Option D} : zCb g (some ds) = g ds := rfl
def zaC (a : Option D) (b : Option (List D)) : Option (List D) := a.bind fun a => b.bind fun b => some (a :: b)
theorem x_za {m : MZ} {n : Env → Option (List D)} : zaCons m n τ = zaC (m τ) (n τ) := rfl
theorem x_za1 : zaC (some d) (some ds) = some (d :: ds) := rfl
theorem x_za0 : zaNil τ = some [] := rfl
theorem x_zV : zVar i τ = τ.getD i none := rfl
theorem x_zK : zC d τ = some d := rfl
def zCh (g g' : D → D → Option D) (a b : Option D) (c : MZ) (τ : Env) : Option D := a.bind fun x => b.bind fun y => (g x y).bind fun z => match z with
  | .bl true => (c τ).bind fun w => g' y w
  | .bl false => some (.bl false)
  | _ => none
def zCh2 (z : Option D) (g' : D → D → Option D) (y : D) (w : Option D) : Option D := z.bind fun z => match z with
  | .bl true => w.bind fun w => g' y w
  | .bl false => some (.bl false)
  | _ => none
theorem x_ch {g g' : D → D → Option D} {a b e : MZ} : zChain g g' a b e τ = zCh g g' (a τ) (b τ) e τ := rfl
theorem x_ch1 {g g' : D → D → Option D} {a b : D} {e : MZ} : zCh g g' (some a) (some b) e τ = zCh2 (g a b) g' b (e τ) := rfl
theorem x_ch2 {g' : D → D → Option D} {a b : D} : zCh2 (some (.bl x)) g' a (some b) = if x = true then g' a b else some (.bl false) := by cases x <;> rfl
def eZ' (o : Option D) (τ : Env) : R D := match o with
  | some d => if isFz d = true then .ok d τ else .bad
  | none => .bad
theorem x_eZ {m : MZ} : eZ m τ = eZ' (m τ) τ := rfl
theorem x_eZ1 : eZ' (some d) τ = if isFz d = true then .ok d τ else .bad := rfl
theorem x_eZ2 : eZ' none τ = .bad := rfl
def eV' (o : Option D) (i : Nat) (τ : Env) : R D := match o with
  | some d => if isFz d = true then .ok d τ else .ok (freeze d) (τ.set i (some (freeze d)))
  | none => .bad
theorem x_eV : eVar i τ = eV' (τ.getD i none) i τ := rfl
theorem x_eV1 : eV' (some d) i τ = if isFz d = true then .ok d τ else .ok (freeze d) (τ.set i (some (freeze d))) := rfl
def eM' (o : Option D) (i : Nat) (τ : Env) : R D := match o with
  | some d => .ok d (τ.set i none)
  | none => .bad
theorem x_eM : eMv i τ = eM' (τ.getD i none) i τ := rfl
theorem x_eM1 : eM' (some d) i τ = .ok d (τ.set i none) := rfl
theorem x_b1 {a : α} {k : α → Env → R β} : R.bind (.ok a τ) k = k a τ := rfl
theorem x_b2 {k : α → Env → R β} : R.bind (.ex c τ) k = .ex c τ := rfl
theorem x_b3 {k : α → Env → R β} : R.bind .bad k = .bad := rfl
theorem x_s1 {a : α} {k : α → Env → SR} : R.s (.ok a τ) k = k a τ := rfl
theorem x_s2 {k : α → Env → SR} : R.s (.ex c τ) k = .ex c τ := rfl
theorem x_s3 {k : α → Env → SR} : R.s .bad k = .bad := rfl
theorem x_oO : ofO (some d) τ = if isFz d = true then .ok d τ else .bad := rfl
theorem x_oO2 : ofO none τ = .bad := rfl
theorem x_e2 {g : D → D → Option D} {m n : ME} : e2 g m n τ = (m τ).bind fun a τ1 => (n τ1).bind fun b τ2 => ofO (g a b) τ2 := rfl
theorem x_e1 {g : D → Option D} {m : ME} : e1 g m τ = (m τ).bind fun a τ1 => ofO (g a) τ1 := rfl
theorem x_eC {g : List D → Option D} {m : MA} : eC g m τ = (m τ).bind fun a τ1 => ofO (g a) τ1 := rfl
theorem x_aN : aNil τ = .ok [] τ := rfl
theorem x_aC {m : ME} {n : MA} : aCons m n τ = (m τ).bind fun d τ1 => (n τ1).bind fun ds τ2 => .ok (d :: ds) τ2 := rfl
theorem x_tup {m : MA} : eTup m τ = (m τ).bind fun ds τ1 => if ds.length ≤ 1000000 then .ok (.tup (freezeL ds)) τ1 else .bad := rfl
theorem x_lst {m : MA} : eLst m τ = (m τ).bind fun ds τ1 => if ds.length ≤ 1000000 then .ok (.lst true ds) τ1 else .bad := rfl
theorem x_call {g : List D → CR} {m : MA} : eCall g m τ = (m τ).bind fun ds τ1 => ofC (g (freezeL ds)) τ1 := rfl
theorem x_oC1 : ofC (.ok d) τ = .ok d τ := rfl
theorem x_oC2 : ofC (.ex c) τ = .ex c τ := rfl
def c0 (r : CR) (τ : Env) : R D := match r with
  | .ok d => .ok d τ
  | _ => .bad
theorem x_call0 {g : List D → CR} : eCall0 g τ = c0 (g []) τ := rfl
theorem x_call01 : c0 (.ok d) τ = .ok d τ := rfl
def andE (r : R D) (b : ME) : R D := r.bind fun x τ1 => match x with
  | .bl true => b τ1 | .bl false => .ok (.bl false) τ1 | _ => .bad
def orE (r : R D) (b : ME) : R D := r.bind fun x τ1 => match x with
  | .bl false => b τ1 | .bl true => .ok (.bl true) τ1 | _ => .bad
def notE (r : R D) : R D := r.bind fun x τ1 => match x with
  | .bl b => .ok (.bl (!b)) τ1 | _ => .bad
def ifE (r : R Bool) (a b : ME) : R D := r.bind fun x τ1 => if x = true then a τ1 else b τ1
theorem x_eAnd {a b : ME} : eAnd a b τ = andE (a τ) b := rfl
theorem x_eAnd1 {b : ME} : andE (.ok (.bl x) τ) b = if x = true then b τ else .ok (.bl false) τ := by cases x <;> rfl
theorem x_eOr {a b : ME} : eOr a b τ = orE (a τ) b := rfl
theorem x_eOr1 {b : ME} : orE (.ok (.bl x) τ) b = if x = true then .ok (.bl true) τ else b τ := by cases x <;> rfl
theorem x_eNot {a : ME} : eNot a τ = notE (a τ) := rfl
theorem x_eNot1 : notE (.ok (.bl x) τ) = .ok (.bl (!x)) τ := rfl
theorem x_eIf {t : MT} {a b : ME} : eIf t a b τ = ifE (t τ) a b := rfl
theorem x_eIf1 {a b : ME} : ifE (.ok x τ) a b = if x = true then a τ else b τ := rfl
theorem x_fz_int (i : Int) : isFz (.int i) = true := rfl
theorem x_fr_int (i : Int) : freeze (.int i) = .int i := rfl
theorem x_fz_bl (i : Bool) : isFz (.bl i) = true := rfl
theorem x_fr_bl (i : Bool) : freeze (.bl i) = .bl i := rfl
theorem x_fz_str (i : Str) : isFz (.str i) = true := rfl
theorem x_fr_str (i : Str) : freeze (.str i) = .str i := rfl
theorem x_fz_ty (i : String) : isFz (.ty i) = true := rfl
theorem x_fr_ty (i : String) : freeze (.ty i) = .ty i := rfl
theorem x_fz_tup (i : List D) : isFz (.tup i) = true := rfl
theorem x_fr_tup (i : List D) : freeze (.tup i) = .tup i := rfl
theorem x_fz_cst (i : List D) : isFz (.cst i) = true := rfl
theorem x_fr_cst (i : List D) : freeze (.cst i) = .cst i := rfl
theorem x_fz_lst_false (i : List D) : isFz (.lst false i) = true := rfl
theorem x_fr_lst_false (i : List D) : freeze (.lst false i) = .lst false i := rfl
theorem x_fz_non : isFz .non = true := rfl
theorem x_fr_non : freeze .non = .non := rfl
theorem x_fz_lt : isFz (.lst true ds) = false := rfl
theorem x_fr_lt : freeze (.lst true ds) = .lst false (freezeL ds) := rfl
theorem x_fL0 : freezeL [] = [] := rfl
theorem x_fL1 : freezeL (d :: ds) = freeze d :: freezeL ds := rfl
def callR (r : SR) : CR := match r with
  | .nx _ => .ok .non | .rt d _ => .ok d | .ex c _ => .ex c | _ => .bad
theorem x_cF {n N : Nat} {b : MS} : callF n N b ds = if ds.length = n then callR (b (ds.map some ++ List.replicate (N - n) none)) else .bad := rfl
theorem x_cR1 : callR (.nx τ) = .ok .non := rfl
theorem x_cR2 : callR (.rt d τ) = .ok d := rfl
theorem x_cR3 : callR (.ex c τ) = .ex c := rfl
def iL' (d : D) (τ : Env) : R (List D) := match d with
  | .lst _ es => .ok es τ | _ => .bad
def iT' (d : D) (τ : Env) : R (List D) := match d with
  | .tup es => .ok es τ | _ => .bad
def iS' (d : D) (τ : Env) : R (List D) := match d with
  | .str z => .ok (strD z) τ | _ => .bad
def iR1' (d : List D) (τ : Env) : R (List D) := match d with
  | [.int j] => if -(2 ^ 62) ≤ j ∧ j < 2 ^ 62 then .ok (rangeD 0 j.toNat) τ else .bad
  | _ => .bad
def iR2' (d : List D) (τ : Env) : R (List D) := match d with
  | [.int i, .int j] => if -(2 ^ 62) ≤ i ∧ i < 2 ^ 62 ∧ -(2 ^ 62) ≤ j ∧ j < 2 ^ 62 then .ok (rangeD i (j - i).toNat) τ else .bad
  | _ => .bad
def iE' (d : List D) (τ : Env) : R (List D) := match d with
  | [.lst _ es] => .ok (enumD 0 es) τ | _ => .bad
def iV' (d : List D) (τ : Env) : R (List D) := match d with
  | [.lst _ es] => .ok es.reverse τ | _ => .bad
def iZ' (d : List D) (τ : Env) : R (List D) := match d with
  | [.lst _ es, .lst _ fs] => .ok (zipD es fs) τ | _ => .bad
theorem x_iL {m : ME} : iL m τ = (m τ).bind fun d τ1 => iL' (freeze d) τ1 := rfl
theorem x_iL1 {b : Bool} : iL' (.lst b ds) τ = .ok ds τ := rfl
theorem x_iT {m : ME} : iT m τ = (m τ).bind fun d τ1 => iT' d τ1 := rfl
theorem x_iT1 : iT' (.tup ds) τ = .ok ds τ := rfl
theorem x_iS {m : ME} : iS m τ = (m τ).bind fun d τ1 => iS' d τ1 := rfl
theorem x_iS1 {z : Str} : iS' (.str z) τ = .ok (strD z) τ := rfl
theorem x_iR1 {m : MA} : iR1 m τ = (m τ).bind fun d τ1 => iR1' d τ1 := rfl
theorem x_iR11 {j : Int} (h1 : -4611686018427387904 ≤ j) (h2 : j < 4611686018427387904) : iR1' [.int j] τ = .ok (rangeD 0 j.toNat) τ := if_pos ⟨h1, h2⟩
theorem x_iR2 {m : MA} : iR2 m τ = (m τ).bind fun d τ1 => iR2' d τ1 := rfl
theorem x_iR21 {i j : Int} (h1 : -4611686018427387904 ≤ i) (h2 : i < 4611686018427387904) (h3 : -4611686018427387904 ≤ j) (h4 : j < 4611686018427387904) : iR2' [.int i, .int j] τ = .ok (rangeD i (j - i).toNat) τ := if_pos ⟨h1, h2, h3, h4⟩
theorem x_iE {m : MA} : iE m τ = (m τ).bind fun d τ1 => iE' (freezeL d) τ1 := rfl
theorem x_iE1 {b : Bool} : iE' [.lst b ds] τ = .ok (enumD 0 ds) τ := rfl
theorem x_iV {m : MA} : iV m τ = (m τ).bind fun d τ1 => iV' (freezeL d) τ1 := rfl
theorem x_iV1 {b : Bool} : iV' [.lst b ds] τ = .ok ds.reverse τ := rfl
theorem x_iZ {m : MA} : iZ m τ = (m τ).bind fun d τ1 => iZ' (freezeL d) τ1 := rfl
theorem x_iZ1 {b b' : Bool} {es : List D} : iZ' [.lst b ds, .lst b' es] τ = .ok (zipD ds es) τ := rfl
def forB (r : SR) (k : Env → SR) : SR := match r with
  | .nx τ2 => k τ2 | .ct τ2 => k τ2 | .bk τ2 => .nx τ2 | .rt d τ2 => .rt d τ2 | .ex c τ2 => .ex c τ2 | .bad => .bad
def forG (o : Option Env) (b : MS) (k : Env → SR) : SR := match o with
  | none => .bad | some τ1 => forB (b τ1) k
theorem x_for {m : MA} {g : D → Env → Option Env} {b : MS} : sFor m g b τ = (m τ).s fun items τ1 => forL g b items τ1 := rfl
theorem x_fo0 {g : D → Env → Option Env} {b : MS} : forL g b [] τ = .nx τ := rfl
theorem x_fo1 {g : D → Env → Option Env} {b : MS} : forL g b (d :: ds) τ = forG (g d τ) b (forL g b ds) := rfl
theorem x_fo2 {b : MS} {k : Env → SR} : forG (some τ) b k = forB (b τ) k := rfl
theorem x_fo3 {k : Env → SR} : forB (.nx τ) k = k τ := rfl
theorem x_fo4 {k : Env → SR} : forB (.ct τ) k = k τ := rfl
theorem x_fo5 {k : Env → SR} : forB (.bk τ) k = .nx τ := rfl
theorem x_fo6 {k : Env → SR} : forB (.rt d τ) k = .rt d τ := rfl
theorem x_fo7 {k : Env → SR} : forB (.ex c τ) k = .ex c τ := rfl
def gT' (n : Nat) (g : List D → Env → Option Env) (es : List D) (τ : Env) : Option Env := if es.length = n then g es τ else none
theorem x_gT {n : Nat} {g : List D → Env → Option Env} : gT n g (.tup ds) τ = if ds.length = n then g ds τ else none := rfl
theorem x_gC {g : D → Env → Option Env} {h : List D → Env → Option Env} : gCons' g h (d :: ds) τ = (g d τ).bind (h ds) := rfl
theorem x_gC0 : gNil' [] τ = some τ := rfl
def tryB (sub : Str → Option Bool) (r : SR) (su : MS) : SR := match r with
  | .ex c τ' => (match sub c with | some true => noEx (su τ') | some false => .ex c τ' | none => .bad)
  | .nx τ' => .nx τ' | .rt d τ' => .rt d τ' | .bk τ' => .bk τ' | .ct τ' => .ct τ' | .bad => .bad
def tryC (o : Option Bool) (c : Str) (τ' : Env) (su : MS) : SR := match o with
  | some true => noEx (su τ') | some false => .ex c τ' | none => .bad
theorem x_try {sub : Str → Option Bool} {b su : MS} : sTry sub b su τ = tryB sub (b τ) su := rfl
theorem x_try1 {sub : Str → Option Bool} {su : MS} : tryB sub (.nx τ) su = .nx τ := rfl
theorem x_try2 {sub : Str → Option Bool} {su : MS} : tryB sub (.rt d τ) su = .rt d τ := rfl
theorem x_try3 {sub : Str → Option Bool} {su : MS} : tryB sub (.ex c τ) su = tryC (sub c) c τ su := rfl
theorem x_try4 {su : MS} : tryC (some true) c τ su = noEx (su τ) := rfl
theorem x_try5 {su : MS} : tryC (some false) c τ su = .ex c τ := rfl
theorem x_nx1 : noEx (.nx τ) = .nx τ := rfl
theorem x_nx2 : noEx (.rt d τ) = .rt d τ := rfl
theorem x_try6 {sub : Str → Option Bool} {su : MS} : tryB sub (.bk τ) su = .bk τ := rfl
theorem x_try7 {sub : Str → Option Bool} {su : MS} : tryB sub (.ct τ) su = .ct τ := rfl
theorem x_nx3 : noEx (.bk τ) = .bk τ := rfl
theorem x_nx4 : noEx (.ct τ) = .ct τ := rfl
def appS (o : Option D) (i : Nat) (d : D) (τ : Env) : SR := match o with
  | some (.lst true es) => if es.length < 1000000 then .nx (τ.set i (some (.lst true (es ++ [d])))) else .bad
  | _ => .bad
def appT (o : Option D) (i : Nat) (r : R D) : SR := match o with
  | some (.lst true _) => r.s fun d τ1 => appS (τ1.getD i none) i d τ1
  | _ => .bad
theorem x_app {m : ME} : sApp i m τ = appT (τ.getD i none) i (m τ) := rfl
theorem x_app1 {r : R D} : appT (some (.lst true ds)) i r = r.s fun d τ1 => appS (τ1.getD i none) i d τ1 := rfl
theorem x_app2 : appS (some (.lst true ds)) i d τ = if ds.length < 1000000 then .nx (τ.set i (some (.lst true (ds ++ [d])))) else .bad := rfl
def lcE (r : R (List D)) : R D := match r with
  | .ok acc τ2 => .ok (.lst true acc) τ2
  | _ => .bad
def lcG (o : Option Env) (own : List Nat) (g : D → Env → Option Env) (t : MT) (m : ME) (r acc : List D) : R (List D) := match o with
  | none => .bad
  | some τ1 => (t τ1).bind fun b τ2 => if b = true then (m τ2).bind fun e τ3 => if acc.length < 1000000 then lcL own g t m r (acc ++ [e]) (wipeE τ3 own) else .bad else lcL own g t m r acc (wipeE τ2 own)
theorem x_lc {own : List Nat} {it : MA} {g : D → Env → Option Env} {t : MT} {m : ME} : eLc own it g t m τ = (it τ).bind fun items τ1 => lcE (lcL own g t m items [] (wipeE τ1 own)) := rfl
theorem x_lcE : lcE (.ok ds τ) = .ok (.lst true ds) τ := rfl
theorem x_lc0 {own : List Nat} {g : D → Env → Option Env} {t : MT} {m : ME} : lcL own g t m [] ds τ = .ok ds τ := rfl
theorem x_lc1 {own : List Nat} {g : D → Env → Option Env} {t : MT} {m : ME} {r : List D} : lcL own g t m (d :: r) ds τ = lcG (g d τ) own g t m r ds := rfl
theorem x_lcG {own : List Nat} {g : D → Env → Option Env} {t : MT} {m : ME} {r : List D} : lcG (some τ) own g t m r ds = (t τ).bind fun b τ2 => if b = true then (m τ2).bind fun e τ3 => if ds.length < 1000000 then lcL own g t m r (ds ++ [e]) (wipeE τ3 own) else .bad else lcL own g t m r ds (wipeE τ2 own) := rfl
theorem x_w0 : wipeE τ [] = τ := rfl
theorem x_w1 {own : List Nat} : wipeE τ (i :: own) = (wipeE τ own).set i none := rfl
theorem vMinL4 (m : Bool) (a b c d : Int) : gMinL [.lst m [.int a, .int b, .int c, .int d]] = some (.int (minI a [b, c, d])) := rfl
theorem vMaxL4 (m : Bool) (a b c d : Int) : gMaxL [.lst m [.int a, .int b, .int c, .int d]] = some (.int (maxI a [b, c, d])) := rfl
theorem vAll {m : Bool} {ds : List D} {bs : List Bool} (h : boolsOf ds = some bs) : gAll [.lst m ds] = some (.bl (bs.all id)) := by
  show (match boolsOf ds with | some ns => some (D.bl (ns.all id)) | _ => none) = _
  rw [h]
theorem vAny {m : Bool} {ds : List D} {bs : List Bool} (h : boolsOf ds = some bs) : gAny [.lst m ds] = some (.bl (bs.any id)) := by
  show (match boolsOf ds with | some ns => some (D.bl (ns.any id)) | _ => none) = _
  rw [h]
theorem vAll3 (m : Bool) (a b c : Bool) : gAll [.lst m [.bl a, .bl b, .bl c]] = some (.bl ([a, b, c].all id)) := rfl
theorem vAny3 (m : Bool) (a b c : Bool) : gAny [.lst m [.bl a, .bl b, .bl c]] = some (.bl ([a, b, c].any id)) := rfl
theorem vAll4 (m : Bool) (a b c d : Bool) : gAll [.lst m [.bl a, .bl b, .bl c, .bl d]] = some (.bl ([a, b, c, d].all id)) := rfl
theorem vAny4 (m : Bool) (a b c d : Bool) : gAny [.lst m [.bl a, .bl b, .bl c, .bl d]] = some (.bl ([a, b, c, d].any id)) := rfl
def whC (r : R Bool) (b : MS) (k : Env → SR) : SR := match r with
  | .ok true τ1 => forB (b τ1) k | .ok false τ1 => .nx τ1 | .ex e τ1 => .ex e τ1 | .bad => .bad
theorem x_wh {t : MT} {b : MS} {n : Nat} : whileM t b (n + 1) τ = whC (t τ) b (whileM t b n) := by
  show (match t τ with | .ok true τ1 => _ | .ok false τ1 => _ | .ex e τ1 => _ | .bad => _) = _
  unfold whC forB
  cases t τ with
  | ok x τ1 => cases x with
    | true => cases b τ1 <;> rfl
    | false => rfl
  | ex e τ1 => rfl
  | bad => rfl
theorem x_wh1 {b : MS} {k : Env → SR} : whC (.ok true τ) b k = forB (b τ) k := rfl
theorem x_wh2 {b : MS} {k : Env → SR} : whC (.ok false τ) b k = .nx τ := rfl
theorem x_wh0 {f : Env → Nat} {t : MT} {b : MS} : sWhile f t b τ = whileM t b (f τ) τ := rfl
theorem x_abs {i : Int} : gAbs [.int i] = some (.int (if i < 0 then -i else i)) := rfl
theorem vI_ii {i : Int} : gIsi [.int i, .ty "int"] = some (.bl true) := rfl
theorem vI_ib {i : Int} : gIsi [.int i, .ty "bool"] = some (.bl false) := rfl
theorem vI_it {i : Int} : gIsi [.int i, .ty "tuple"] = some (.bl false) := rfl
theorem vI_il {i : Int} : gIsi [.int i, .ty "list"] = some (.bl false) := rfl
theorem vI_is {i : Int} : gIsi [.int i, .ty "str"] = some (.bl false) := rfl
theorem vI_bb {i : Bool} : gIsi [.bl x, .ty "bool"] = some (.bl true) := rfl
theorem vI_bi {i : Bool} : gIsi [.bl x, .ty "int"] = some (.bl true) := rfl
theorem vI_tt {i : Bool} : gIsi [.tup ds, .ty "tuple"] = some (.bl true) := rfl
theorem vI_tl {i : Bool} : gIsi [.tup ds, .ty "list"] = some (.bl false) := rfl
theorem vI_ti {i : Bool} : gIsi [.tup ds, .ty "int"] = some (.bl false) := rfl
theorem vI_ll {i : Bool} : gIsi [.lst i ds, .ty "list"] = some (.bl true) := rfl
theorem vI_lt {i : Bool} : gIsi [.lst i ds, .ty "tuple"] = some (.bl false) := rfl
theorem vI_ss {i : Str} : gIsi [.str i, .ty "str"] = some (.bl true) := rfl
theorem vEqB {i j : Bool} : gEq (.bl i) (.bl j) = some (.bl (i == j)) := rfl
theorem vNeB {i j : Bool} : gNe (.bl i) (.bl j) = some (.bl (!(i == j))) := rfl
def asB (i : Nat) (sub : Str → Option Bool) (r : SR) (su : Str → MS) : SR := match r with
  | .ex c τ' => tryAs i (sub c) c τ' su
  | .nx τ' => .nx τ' | .rt d τ' => .rt d τ' | .bk τ' => .bk τ' | .ct τ' => .ct τ' | .bad => .bad
theorem x_ta {sub : Str → Option Bool} {b : MS} {su : Str → MS} : sTryAs i sub b su τ = asB i sub (b τ) su := rfl
theorem x_ta1 {sub : Str → Option Bool} {su : Str → MS} : asB i sub (.ex c τ) su = tryAs i (sub c) c τ su := rfl
theorem x_ta2 {sub : Str → Option Bool} {su : Str → MS} : asB i sub (.nx τ) su = .nx τ := rfl
theorem x_ta3 {su : Str → MS} : tryAs i (some true) c τ su = if i < τ.length then endAs i (su c (τ.set i none)) else .bad := rfl
theorem x_ta4 : endAs i (.nx τ) = .nx (τ.set i none) := rfl
theorem x_ta5 : endAs i (.rt d τ) = .rt d τ := rfl
theorem x_is : eIs (some x) τ = .ok (.bl x) τ := rfl
theorem nc_0 : ((0 : Nat) : Int) = 0 := rfl
theorem nc_1 : ((1 : Nat) : Int) = 1 := rfl
theorem nc_2 : ((2 : Nat) : Int) = 2 := rfl
theorem nc_3 : ((3 : Nat) : Int) = 3 := rfl
theorem nc_4 : ((4 : Nat) : Int) = 4 := rfl
theorem nc_5 : ((5 : Nat) : Int) = 5 := rfl
theorem nc_6 : ((6 : Nat) : Int) = 6 := rfl
theorem nc_7 : ((7 : Nat) : Int) = 7 := rfl
theorem nc_8 : ((8 : Nat) : Int) = 8 := rfl
theorem nc_9 : ((9 : Nat) : Int) = 9 := rfl
theorem nc_10 : ((10 : Nat) : Int) = 10 := rfl
theorem nc_11 : ((11 : Nat) : Int) = 11 := rfl
def mxI (i j : Int) : Int := if j > i then j else i
def mnI (i j : Int) : Int := if j < i then j else i
theorem mxI_le (i j : Int) : i ≤ mxI i j ∧ j ≤ mxI i j ∧ (mxI i j = i ∨ mxI i j = j) := by unfold mxI; split <;> omega
theorem mnI_le (i j : Int) : mnI i j ≤ i ∧ mnI i j ≤ j ∧ (mnI i j = i ∨ mnI i j = j) := by unfold mnI; split <;> omega
theorem vMax2 {i j : Int} : gMax2 [.int i, .int j] = some (.int (mxI i j)) := rfl
theorem vMin2 {i j : Int} : gMin2 [.int i, .int j] = some (.int (mnI i j)) := rfl
theorem vIsN0 : gIsN .non .non = some (.bl true) := rfl
theorem vIsN1 {i : List D} : gIsN (.tup i) .non = some (.bl false) := rfl
theorem vNotN0 : gNotN .non .non = some (.bl false) := rfl
theorem vNotN1 {i : List D} : gNotN (.tup i) .non = some (.bl true) := rfl
theorem vIsN2 {i : Int} : gIsN (.int i) .non = some (.bl false) := rfl
theorem vNotN2 {i : Int} : gNotN (.int i) .non = some (.bl true) := rfl
def loD (ds : List D) (τ : Env) : R D := match ds with
  | [.lst _ es] => .ok (.lst true es) τ
  | [.tup es] => .ok (.lst true es) τ
  | _ => .bad
theorem x_lo {m : MA} : eLstOf m τ = (m τ).bind fun ds τ1 => loD (freezeL ds) τ1 := rfl
theorem x_lo1 {b : Bool} : loD [.lst b ds] τ = .ok (.lst true ds) τ := rfl
theorem x_lo2 : loD [.tup ds] τ = .ok (.lst true ds) τ := rfl
theorem vAll2 (m : Bool) (a b : Bool) : gAll [.lst m [.bl a, .bl b]] = some (.bl ([a, b].all id)) := rfl
theorem vAny2 (m : Bool) (a b : Bool) : gAny [.lst m [.bl a, .bl b]] = some (.bl ([a, b].any id)) := rfl
def slE (o : Option D) (τ : Env) : R D := match o with
  | some x => .ok x τ | none => .bad
theorem x_sl {f : D → Option Int → Option Int → Option D} {m : ME} {p r : Env → R (Option Int)} : eSlice f m p r τ = (m τ).bind fun d τ1 => slR (freeze d) p r f τ1 := rfl
theorem x_sl1 {f : D → Option Int → Option Int → Option D} {p r : Env → R (Option Int)} : slR d p r f τ = (p τ).bind fun lo τ1 => (r τ1).bind fun hi τ2 => slE (f d lo hi) τ2 := rfl
theorem x_sl2 : slE (some d) τ = .ok d τ := rfl
theorem x_pn : pNone τ = .ok none τ := rfl
def psI (d : D) (τ : Env) : R (Option Int) := match d with
  | .int i => .ok (some i) τ | _ => .bad
theorem x_ps {m : ME} : pSome m τ = (m τ).bind fun d τ1 => psI d τ1 := rfl
theorem x_ps1 {i : Int} : psI (.int i) τ = .ok (some i) τ := rfl
theorem x_cutL {b : Bool} {l h : Option Int} : cutLd (.lst b ds) l h = some (.lst true (cutL ds l h)) := rfl
theorem x_cutC {l h : Option Int} : cutLd (.cst ds) l h = some (.lst true (cutL ds l h)) := rfl
theorem okP_str {i : Str} (h : PySem.PyData.strOk i = true) : okP (.str i) = true := by
  show (true && (PySem.PyData.canLay0 (.str i) && decide (PySem.PyData.depth (.str i) ≤ 64))) = true
  rw [show PySem.PyData.canLay0 (.str i) = true from h]
  rfl
theorem vEqS {i j : Str} (h1 : PySem.PyData.strOk i = true) (h2 : PySem.PyData.strOk j = true) : gEq (.str i) (.str j) = some (.bl (i == j)) := if_pos ⟨okP_str h1, okP_str h2⟩
theorem vNeS {i j : Str} (h1 : PySem.PyData.strOk i = true) (h2 : PySem.PyData.strOk j = true) : gNe (.str i) (.str j) = some (.bl (!(i == j))) := if_pos ⟨okP_str h1, okP_str h2⟩
theorem x_fz_obj {ns : List Str} : isFz (.obj false c ns ds) = true := rfl
theorem x_fr_obj {ns : List Str} : freeze (.obj false c ns ds) = .obj false c ns ds := rfl
theorem x_make {m : MA} {ns : List Str} : eMake c ns m τ = (m τ).bind fun ds τ1 => if ds.length = ns.length then .ok (.obj false c ns (freezeL ds)) τ1 else .bad := rfl
theorem x_fld {b : Bool} {f c' : Str} {ns : List Str} : gFld c f (.obj b c' ns ds) = if c' = c then lookD f ns ds else none := rfl
theorem x_look {f n : Str} {ns : List Str} : lookD f (n :: ns) (d :: ds) = if f = n then some d else lookD f ns ds := rfl
def methC (o : Option (List D → CR)) (b : Bool) (d : D) (ma : MA) (τ1 : Env) : R D := match o with
  | some g => if b = true then .bad else (ma τ1).bind fun ds τ2 => ofC (g (d :: freezeL ds)) τ2
  | none => .bad
def methA (As : List (Str × (List D → CR))) (m : Str) (d : D) (ma : MA) (τ1 : Env) : R D := match d with
  | .obj false c ns xs => methC (As.lookup c) (ns.contains m) (.obj false c ns xs) ma τ1
  | _ => .bad
theorem x_meth {As : List (Str × (List D → CR))} {m : Str} {mo : ME} {ma : MA} : eMeth As m mo ma τ = (mo τ).bind fun d τ1 => methA As m d ma τ1 := by
  show (mo τ).bind _ = _
  congr 1
theorem x_meth2 {As : List (Str × (List D → CR))} {m : Str} {ns : List Str} {ma : MA} : methA As m (.obj false c ns ds) ma τ = methC (As.lookup c) (ns.contains m) (.obj false c ns ds) ma τ := rfl
theorem x_meth3 {g : List D → CR} {ma : MA} : methC (some g) false d ma τ = (ma τ).bind fun ds τ2 => ofC (g (d :: freezeL ds)) τ2 := rfl
def isOD (tbl : Str → Option Bool) (o : Option D) : Option D := o.bind fun d => match d with
  | .obj _ c _ _ => (tbl c).map D.bl
  | _ => none
theorem x_isO {tbl : Str → Option Bool} {m : MZ} : zIsO tbl m τ = isOD tbl (m τ) := rfl
theorem x_isO1 {tbl : Str → Option Bool} {b : Bool} {ns : List Str} : isOD tbl (some (.obj b c ns ds)) = (tbl c).map D.bl := rfl
theorem x_cat {a b : ME} : eCat a b τ = (a τ).bind fun x τ1 => (b τ1).bind fun y τ2 => slE' (catD (freeze x) (freeze y)) τ2 := rfl
theorem x_cat1 : slE' (some d) τ = .ok d τ := rfl
theorem vCat {xs ys : List D} (h : xs.length + ys.length ≤ 1000000) : catD (.lst false xs) (.lst false ys) = some (.lst true (xs ++ ys)) := if_pos h
def callZ (g : List D → CR) (o : Option (List D)) (τ : Env) : R D := match o with
  | some ds => lendR (g (freezeL ds)) τ
  | none => .bad
def methZC (o : Option (List D → CR)) (b : Bool) (d : D) (a : Option (List D)) (τ1 : Env) : R D := match o with
  | some g => if b = true then .bad else (match a with
    | some ds => lendR (g (d :: freezeL ds)) τ1
    | none => .bad)
  | none => .bad
def methZA (As : List (Str × (List D → CR))) (m : Str) (d : D) (a : Option (List D)) (τ1 : Env) : R D := match d with
  | .obj false c ns xs => methZC (As.lookup c) (ns.contains m) (.obj false c ns xs) a τ1
  | _ => .bad
theorem x_methZ {As : List (Str × (List D → CR))} {m : Str} {mo : ME} {ma : Env → Option (List D)} : eMethZ As m mo ma τ = (mo τ).bind fun d τ1 => methZA As m d (ma τ1) τ1 := by
  show (mo τ).bind _ = _
  congr 1
  all_goals (
    funext d τ1
    cases d with
    | obj b c ns xs =>
      cases b with
      | true => rfl
      | false =>
        unfold methZA methZC
        cases As.lookup c <;> rfl
    | _ => rfl)
def setIx1 (o : Option D) (k : Option D) (i : Nat) (d : D) (τ1 : Env) : SR := match o with
  | some (.lst true es) => (match k with
    | some (.int k) => (match setD es k d with
      | some es' => .nx (τ1.set i (some (.lst true es')))
      | none => .bad)
    | _ => .bad)
  | _ => .bad
def setIx2 (o : Option (List D)) (i : Nat) (τ1 : Env) : SR := match o with
  | some es' => .nx (τ1.set i (some (.lst true es')))
  | none => .bad
theorem x_methZ2 {As : List (Str × (List D → CR))} {m : Str} {ns : List Str} {a : Option (List D)} : methZA As m (.obj false c ns ds) a τ = methZC (As.lookup c) (ns.contains m) (.obj false c ns ds) a τ := rfl
theorem x_methZ3 {g : List D → CR} : methZC (some g) false d (some ds) τ = lendR (g (d :: freezeL ds)) τ := rfl
theorem x_callZ {g : List D → CR} {m : Env → Option (List D)} : eCallZ g m τ = callZ g (m τ) τ := rfl
theorem x_callZ1 {g : List D → CR} : callZ g (some ds) τ = lendR (g (freezeL ds)) τ := rfl
theorem x_lend1 : lendR (.ok d) τ = if clean d = true then .ok d τ else .bad := rfl
theorem x_lend2 : lendR (.ex c) τ = .ex c τ := rfl
theorem x_cl_int {i : Int} : clean (.int i) = true := rfl
theorem x_cl_bl {i : Bool} : clean (.bl i) = true := rfl
theorem x_cl_str {i : Str} : clean (.str i) = true := rfl
theorem x_cl_non : clean .non = true := rfl
theorem x_cl_tup : clean (.tup ds) = cleanL ds := rfl
theorem x_cl0 : cleanL [] = true := rfl
theorem x_cl1 : cleanL (d :: ds) = (clean d && cleanL ds) := rfl
theorem x_cl_lst : clean (.lst true ds) = cleanL ds := Bool.true_and _
theorem x_setIx {mi : MZ} {m : ME} : sSetIx i mi m τ = (m τ).s fun d τ1 => setIx1 (τ1.getD i none) (mi τ1) i d τ1 := rfl
theorem x_setIx1 {k : Int} : setIx1 (some (.lst true ds)) (some (.int k)) i d τ = setIx2 (setD ds k d) i τ := rfl
def lcB (o : Option D) (own : List Nat) (i : Nat) (g : D → Env → Option Env) (t : MT) (m : ME) (τ : Env) : R D := match o with
  | some (.lst true es) => if es.all isFz = true then (match lcL own g t m es [] (wipeE (τ.set i none) own) with
    | .ok acc τ2 => .ok (.lst true acc) (τ2.set i (some (.lst true es)))
    | _ => .bad) else .bad
  | _ => .bad
theorem lcB_ok {own : List Nat} {g : D → Env → Option Env} {t : MT} {m : ME} {es acc : List D} (h : τ.getD i none = some (.lst true es)) (hz : es.all isFz = true) (e : lcL own g t m es [] (wipeE (τ.set i none) own) = .ok acc τ') : eLcB own i g t m τ = .ok (.lst true acc) (τ'.set i (some (.lst true es))) := by
  show lcB (τ.getD i none) own i g t m τ = _
  rw [h]
  show (if es.all isFz = true then (match lcL own g t m es [] (wipeE (τ.set i none) own) with | .ok acc τ2 => R.ok (D.lst true acc) (τ2.set i (some (.lst true es))) | _ => R.bad) else R.bad) = _
  rw [if_pos hz, e]
theorem x_setIx2 : setIx2 (some ds) i τ = .nx (τ.set i (some (.lst true ds))) := rfl
theorem vSetD {es : List D} {j : Nat} {k : Int} (e : k = (j : Nat)) (h : j < es.length) : setD es k d = some (es.set j d) := by
  subst e
  unfold setD ixN
  rw [if_pos (by omega), if_pos (by omega)]
  rfl
theorem vInD {a : D} {m : Bool} {xs : List D} (h1 : okP a = true) (h2 : okP (.lst m xs) = true) : gInD false a (.lst m xs) = some (.bl ((toPs xs).any fun z => PyData.eqv z (toP a))) := if_pos ⟨h1, h2⟩
theorem vNotInD {a : D} {m : Bool} {xs : List D} (h1 : okP a = true) (h2 : okP (.lst m xs) = true) : gInD true a (.lst m xs) = some (.bl (!(toPs xs).any fun z => PyData.eqv z (toP a))) := if_pos ⟨h1, h2⟩
def callI3 (r : CR2) (is : List Nat) (τ2 : Env) : R D := match r with
  | .ok d outs => if outs.length = is.length then .ok d (putD is outs τ2) else .bad
  | .bad => .bad
def callI2 (o : Option (List D × Env)) (g : List D → CR2) (is : List Nat) (ds : List D) : R D := match o with
  | none => .bad
  | some (ios, τ2) => callI3 (g (ios ++ freezeL ds)) is τ2
def takeC (o : Option D) (i : Nat) (is : List Nat) (τ : Env) : Option (List D × Env) := match o with
  | none => none
  | some d => (takeD is (τ.set i none)).map fun p => (d :: p.1, p.2)
def callRI (k : Nat) (r : SR) : CR2 := match r with
  | .nx τ => outR k .non τ
  | .rt d τ => outR k d τ
  | _ => .bad
def outR1 (o : Option (List D)) (d : D) : CR2 := match o with
  | some os => .ok d os
  | none => .bad
def parS (i j : Nat) (r : R (List D)) : SR := r.s fun ds τ1 => match ds with
  | [x, y] => .nx ((τ1.set i (some x)).set j (some y))
  | _ => .bad
def sortR2 (o : Option (List Int)) (τ1 : Env) : R D := match o with
  | some ns => .ok (.lst true ((sortI ns).map D.int)) τ1
  | none => .bad
def sortR (ds : List D) (τ1 : Env) : R D := match ds with
  | [.lst _ es] => sortR2 (intsOf es) τ1
  | _ => .bad
theorem x_callI {g : List D → CR2} {is : List Nat} {m : MA} : eCallI g is m τ = if is.all (fun i => (τ.getD i none).isSome) = true then (m τ).bind fun ds τ1 => callI g is ds τ1 else .bad := rfl
theorem x_callI1 {g : List D → CR2} {is : List Nat} : callI g is ds τ = callI2 (takeD is τ) g is ds := by unfold callI; cases takeD is τ <;> rfl
theorem x_callI2 {g : List D → CR2} {is : List Nat} {ios : List D} : callI2 (some (ios, τ)) g is ds = callI3 (g (ios ++ freezeL ds)) is τ := rfl
theorem x_callI3 {is : List Nat} : callI3 (.ok d ds) is τ = if ds.length = is.length then .ok d (putD is ds τ) else .bad := rfl
theorem x_take0 : takeD [] τ = some ([], τ) := rfl
theorem x_take1 {is : List Nat} : takeD (i :: is) τ = takeC (τ.getD i none) i is τ := by show (match τ.getD i none with | none => none | some d => _) = _; cases τ.getD i none <;> rfl
theorem x_take2 {is : List Nat} : takeC (some d) i is τ = (takeD is (τ.set i none)).map fun p => (d :: p.1, p.2) := rfl
theorem x_put0 : putD [] [] τ = τ := rfl
theorem x_put1 {is : List Nat} : putD (i :: is) (d :: ds) τ = putD is ds (τ.set i (some d)) := rfl
theorem x_cFI {n N k : Nat} {b : MS} : callFI n N k b ds = if ds.length = n then callRI k (b (ds.map some ++ List.replicate (N - n) none)) else .bad := rfl
theorem x_cRI1 {k : Nat} : callRI k (.nx τ) = outR k .non τ := rfl
theorem x_cRI2 {k : Nat} : callRI k (.rt d τ) = outR k d τ := rfl
theorem x_outR {k : Nat} : outR k d τ = outR1 (outsE k τ) d := by unfold outR outR1; cases outsE k τ <;> rfl
theorem x_outR1 : outR1 (some ds) d = .ok d ds := rfl
theorem x_out1 {a : D} : outsE 1 (some a :: τ) = some [a] := rfl
theorem x_out2 {a b : D} : outsE 2 (some a :: some b :: τ) = some [a, b] := rfl
theorem x_par {j : Nat} {m : MA} : sPar i j m τ = parS i j (m τ) := rfl
theorem x_par1 {j : Nat} {a b : D} : parS i j (.ok [a, b] τ) = .nx ((τ.set i (some a)).set j (some b)) := rfl
theorem x_sort {m : MA} : eSorted m τ = (m τ).bind fun ds τ1 => sortR (freezeL ds) τ1 := rfl
theorem x_sort1 {b : Bool} : sortR [.lst b ds] τ = sortR2 (intsOf ds) τ := rfl
theorem x_sort2 {ns : List Int} : sortR2 (some ns) τ = .ok (.lst true ((sortI ns).map D.int)) τ := rfl
theorem x_io2 {a b : Int} : intsOf [.int a, .int b] = some [a, b] := rfl
theorem x_io4 {a b c d : Int} : intsOf [.int a, .int b, .int c, .int d] = some [a, b, c, d] := rfl
theorem vMulS {i j : Int} (h : CMul i j) : gMulS (.int i) (.int j) = some (.int (i * j)) := if_pos h
theorem vIsB {a b : Bool} : gIsB (.bl a) (.bl b) = some (.bl (decide (a = b))) := rfl
theorem vIndex {a : D} {m : Bool} {xs : List D} (h1 : okP a = true) (h2 : okP (.lst m xs) = true) {j : Nat} (h : findP (toP a) (toPs xs) 0 = some j) : gIndex (.lst m xs) a = some (.int (j : Nat)) := by
  show (if okP a = true ∧ okP (.lst m xs) = true then (findP (toP a) (toPs xs) 0).map fun j => D.int (j : Nat) else none) = _
  rw [if_pos ⟨h1, h2⟩, h]; rfl
def lrD (d : D) (τ : Env) : R D := match d with
  | .lst _ es => .ok (.lst true es.reverse) τ
  | _ => .bad
def clrT (o : Option D) (i : Nat) (τ : Env) : SR := match o with
  | some (.lst true _) => .nx (τ.set i (some (.lst true [])))
  | _ => .bad
def clrE (o : Option D) (i j : Nat) (τ : Env) : SR := match o with
  | some (.lst true es) => if es.all isOwnL = true ∧ j < τ.length then .nx ((τ.set j none).set i (some (.lst true (clrL es.length es)))) else .bad
  | _ => .bad
def popS (o : Option (List D)) (i : Nat) (τ : Env) : SR := match o with
  | some es' => .nx (τ.set i (some (.lst true es')))
  | none => .bad
def popT (o k : Option D) (i : Nat) (τ : Env) : SR := match o with
  | some (.lst true es) => (match k with
    | some (.int k) => popS (popD es k) i τ
    | _ => .bad)
  | _ => .bad
def insS (o : Option D) (k : Int) (i : Nat) (d : D) (τ1 : Env) : SR := match o with
  | some (.lst true es) => if es.length < 1000000 ∧ 0 ≤ k ∧ k < 2 ^ 63 then .nx (τ1.set i (some (.lst true (es.take k.toNat ++ [d] ++ es.drop k.toNat)))) else .bad
  | _ => .bad
def insT (o k : Option D) (i : Nat) (r : R D) : SR := match o, k with
  | some (.lst true _), some (.int k) => r.s fun d τ1 => insS (τ1.getD i none) k i d τ1
  | _, _ => .bad
theorem x_pop {mi : MZ} : sPopAt i mi τ = popT (τ.getD i none) (mi τ) i τ := by
  unfold sPopAt popT popS
  rfl
theorem x_lr {m : ME} : eLstRev m τ = (m τ).bind fun d τ1 => lrD (freeze d) τ1 := rfl
theorem x_lr1 {b : Bool} : lrD (.lst b ds) τ = .ok (.lst true ds.reverse) τ := rfl
theorem x_clr : sClear i τ = clrT (τ.getD i none) i τ := rfl
theorem x_clr1 : clrT (some (.lst true ds)) i τ = .nx (τ.set i (some (.lst true []))) := rfl
theorem x_clrE {j : Nat} : sClearEach i j τ = clrE (τ.getD i none) i j τ := rfl
theorem x_clrE1 {j : Nat} : clrE (some (.lst true ds)) i j τ = if ds.all isOwnL = true ∧ j < τ.length then .nx ((τ.set j none).set i (some (.lst true (clrL ds.length ds)))) else .bad := rfl
theorem x_pop1 {k : Int} : popT (some (.lst true ds)) (some (.int k)) i τ = popS (popD ds k) i τ := rfl
theorem x_pop2 : popS (some ds) i τ = .nx (τ.set i (some (.lst true ds))) := rfl
theorem x_ins {mi : MZ} {m : ME} : sIns i mi m τ = insT (τ.getD i none) (mi τ) i (m τ) := rfl
theorem x_ins1 {k : Int} {r : R D} : insT (some (.lst true ds)) (some (.int k)) i r = r.s fun d τ1 => insS (τ1.getD i none) k i d τ1 := rfl
theorem x_ins2 {k : Int} : insS (some (.lst true ds)) k i d τ = if ds.length < 1000000 ∧ 0 ≤ k ∧ k < 2 ^ 63 then .nx (τ.set i (some (.lst true (ds.take k.toNat ++ [d] ++ ds.drop k.toNat)))) else .bad := rfl
theorem x_sk {p r : Env → R (Option Int)} : eSliceK i p r τ = skD (τ.getD i none) i p r τ := rfl
theorem x_sk1 {p r : Env → R (Option Int)} : skD (some (.lst true ds)) i p r τ = if ds.all isFz = true then skP (p (τ.set i none)) ds i r else .bad := rfl
theorem x_sk2 {o : Option Int} {r : Env → R (Option Int)} : skP (.ok o τ) ds i r = skQ (r τ) ds o i := rfl
theorem x_sk3 {o o' : Option Int} : skQ (.ok o' τ) ds o i = .ok (.lst true (cutL ds o o')) (τ.set i (some (.lst true ds))) := rfl
theorem x_ck {g : List D → CR} {m : MA} : eCallK g i m τ = if (τ.getD i none).isSome = true then (m τ).bind fun es τ1 => ckR g (τ1.getD i none) es τ1 else .bad := rfl
theorem x_ck1 {g : List D → CR} : ckR g (some d) ds τ = lendR (g (freezeL [d] ++ freezeL ds)) τ := rfl
theorem x_lk : eLstK i τ = lkR (τ.getD i none) τ := rfl
theorem x_lk1 : lkR (some (.lst true ds)) τ = if ds.all isFz = true then .ok (.lst true ds) τ else .bad := rfl
theorem x_iK {m : ME} : iK m τ = (m τ).bind fun d τ1 => iK' d τ1 := rfl
theorem x_iK1 : iK' (.cst ds) τ = .ok ds τ := rfl
theorem x_forB {g : D → Env → Option Env} {b : MS} : sForB i g b τ = fbD (τ.getD i none) i g b τ := rfl
theorem x_fbD {g : D → Env → Option Env} {b : MS} : fbD (some (.lst true ds)) i g b τ = if ds.all isFz = true then fbR i ds (forL g b ds (τ.set i none)) else .bad := rfl
theorem x_fbR : fbR i ds (.nx τ) = .nx (τ.set i (some (.lst true ds))) := rfl
theorem x_fbR2 : fbR i ds (.rt d τ) = .rt d τ := rfl
theorem x_fzE {m : ME} : eFz m τ = (m τ).bind fun d τ1 => .ok (freeze d) τ1 := rfl
theorem vInt1 {j : Int} : gInt [.int j] = some (.int j) := rfl
theorem vInt2 {b : Bool} : gInt [.bl b] = some (.int (if b then 1 else 0)) := rfl
def tupR (l : List D) (τ : Env) : R D := match l with
  | [.lst _ es] => .ok (.tup es) τ
  | [.tup es] => .ok (.tup es) τ
  | _ => .bad
theorem x_tupO {m : MA} : eTupOf m τ = (m τ).bind fun ds τ1 => tupR (freezeL ds) τ1 := rfl
theorem x_tupO1 {b : Bool} : tupR [.lst b ds] τ = .ok (.tup ds) τ := rfl
theorem x_tupO2 : tupR [.tup ds] τ = .ok (.tup ds) τ := rfl
def zRi (o : Option D) (g : D → D → Option D) (a : D) : Option D := o.bind fun b => g a b
theorem x_e2Z {g : D → D → Option D} {m : ME} {n : MZ} : e2Z g m n τ = (m τ).bind fun a τ1 => ofO (zRi (n τ1) g a) τ1 := rfl
theorem x_e2Z1 {g : D → D → Option D} {a b : D} : zRi (some b) g a = g a b := rfl
theorem x_appF {cc f : Str} {m : ME} : sAppF i cc f m τ = appF1 i cc f (τ.getD i none) (m (τ.set i none)) := rfl
theorem x_appF1 {cc f : Str} {ns : List Str} {r : R D} : appF1 i cc f (some (.obj true cc ns ds)) r = appFL i cc f ns ds (lookD f ns ds) r := if_pos rfl
theorem x_appF2 {cc f : Str} {ns : List Str} {r : R D} {es : List D} : appFL i cc f ns ds (some (.lst true es)) r = if es.length < 1000000 then appF2 i cc f ns ds es r else .bad := rfl
theorem x_appF3 {cc f : Str} {ns : List Str} {es : List D} : appF2 i cc f ns ds es (.ok d τ) = .nx (τ.set i (some (.obj true cc ns (putL f (.lst true (es ++ [d])) ns ds)))) := rfl
theorem x_setF {cc f : Str} {mi : MZ} {m : ME} : sSetIxF i cc f mi m τ = (m τ).s fun d τ1 => setF1 i cc f (τ1.getD i none) (mi τ1) d τ1 := rfl
theorem x_setF1 {cc f : Str} {ns : List Str} {k : Option D} : setF1 i cc f (some (.obj true cc ns ds)) k d τ = setFL i cc f ns ds (lookD f ns ds) k d τ := if_pos rfl
theorem x_setF2 {cc f : Str} {ns : List Str} {k : Int} {es : List D} : setFL i cc f ns ds (some (.lst true es)) (some (.int k)) d τ = setF3 i cc f ns ds (setD es k d) τ := rfl
theorem x_setF3 {cc f : Str} {ns : List Str} {es : List D} : setF3 i cc f ns ds (some es) τ = .nx (τ.set i (some (.obj true cc ns (putL f (.lst true es) ns ds)))) := rfl
theorem x_setFd {cc f : Str} {m : ME} : sSetFld i cc f m τ = (m τ).s fun d τ1 => fldS i cc f (τ1.getD i none) d τ1 := rfl
theorem x_setFd1 {cc f : Str} {ns : List Str} (h : ns.length < 999) : fldS i cc f (some (.obj true cc ns ds)) d τ = .nx (τ.set i (some (putFld f d cc ns ds))) := by
  unfold fldS; exact if_pos ⟨rfl, h⟩
theorem x_makeI {cc : Str} {g : List D → CR2} {m : MA} : eMakeI cc g m τ = (m τ).bind fun ds τ1 => mkI (g (.obj true cc [] [] :: freezeL ds)) τ1 := rfl
theorem x_makeI1 : mkI (.ok .non [d]) τ = .ok d τ := rfl
theorem x_methI {cc m : Str} {g : List D → CR2} {ma : MA} : eMethI cc m g i ma τ = if methOk cc m (τ.getD i none) = true then (ma τ).bind fun ds τ1 => methI1 (τ1.getD i none) g i ds τ1 else .bad := rfl
theorem x_methI1 {g : List D → CR2} : methI1 (some d) g i ds τ = methI2 (g (d :: freezeL ds)) i (τ.set i none) := rfl
theorem x_methI2 {o : D} : methI2 (.ok d [o]) i τ = .ok d (τ.set i (some o)) := rfl
theorem x_mz0 {As : List (Str × (List D → CR))} {m : Str} : eMethZ0 As m i τ = mz0A As m (τ.getD i none) τ := rfl
theorem x_mz01 {As : List (Str × (List D → CR))} {m cc : Str} {b : Bool} {ns : List Str} : mz0A As m (some (.obj b cc ns ds)) τ = mz0B (As.lookup cc) m b cc ns ds τ := rfl
theorem x_mz02 {g : List D → CR} {m cc : Str} {b : Bool} {ns : List Str} : mz0B (some g) m b cc ns ds τ = if ns.contains m = true then .bad else lendR0 (g (freezeL [.obj b cc ns ds])) τ := rfl
theorem x_mz03 : lendR0 (.ok d) τ = if clean d = true then .ok d τ else .bad := rfl
theorem x_m0 {As : List (Str × (List D → CR))} {m : Str} : eMeth0 As m i τ = m0A As m (τ.getD i none) i τ := rfl
theorem x_m01 {As : List (Str × (List D → CR))} {m cc : Str} {b : Bool} {ns : List Str} : m0A As m (some (.obj b cc ns ds)) i τ = m0B (As.lookup cc) m b cc ns ds i τ := rfl
theorem x_m02 {g : List D → CR} {m cc : Str} {b : Bool} {ns : List Str} : m0B (some g) m b cc ns ds i τ = if ns.contains m = true then .bad else m0C (g [freeze (.obj b cc ns ds)]) i τ := rfl
theorem x_m03 : m0C (.ok d) i τ = .ok d (τ.set i none) := rfl
theorem x_fz_objt {cc : Str} {ns : List Str} : isFz (.obj true cc ns ds) = false := rfl
theorem x_fr_objt {cc : Str} {ns : List Str} : freeze (.obj true cc ns ds) = .obj false cc ns (freezeL ds) := rfl
def tLr (o : Option D) (τ : Env) : R Bool := match o with
  | some (.lst _ es) => .ok (!es.isEmpty) τ
  | _ => .bad
theorem x_tL0 {m : MZ} : tL m τ = tLr (m τ) τ := rfl
theorem x_tL1a {b : Bool} : tLr (some (.lst b ds)) τ = .ok (!ds.isEmpty) τ := rfl
end
end Bn

/-! Plain helpers: data equal to itself, loops, comprehensions, ranges. -/
namespace Bn
open PySem L2
/-- data, nested at most n deep -/
structure Ok (n : Nat) (d : D) : Prop where
  h : hasP d = true
  l : (toP d).canLay0 = true
  d : (toP d).depth ≤ n
theorem ok_int {n : Nat} (i : Int) : Ok n (.int i) := ⟨rfl, by simp [toP, PyData.canLay0], by simp [toP, PyData.depth]⟩
theorem ok_bl {n : Nat} (i : Bool) : Ok n (.bl i) := ⟨rfl, by simp [toP, PyData.canLay0], by simp [toP, PyData.depth]⟩
theorem ok_non {n : Nat} : Ok n .non := ⟨rfl, by simp [toP, PyData.canLay0], by simp [toP, PyData.depth]⟩
theorem ok_str {n : Nat} {i : Str} (h : PyData.strOk i = true) : Ok n (.str i) := ⟨rfl, by simpa [toP, PyData.canLay0] using h, by simp [toP, PyData.depth]⟩
theorem ok_all {n : Nat} : ∀ {ds : List D}, (∀ d ∈ ds, Ok n d) → hasPs ds = true ∧ PyData.canLayAll0 (toPs ds) = true ∧ PyData.depthAll (toPs ds) ≤ n
  | [], _ => ⟨rfl, rfl, Nat.zero_le _⟩
  | d :: ds, h => by
    obtain ⟨h1, h2, h3⟩ := h d List.mem_cons_self
    obtain ⟨k1, k2, k3⟩ := ok_all fun e he => h e (List.mem_cons_of_mem _ he)
    refine ⟨?_, ?_, ?_⟩
    · show (hasP d && hasPs ds) = true
      rw [h1, k1]; rfl
    · show PyData.canLayAll0 (toP d :: toPs ds) = true
      simp [PyData.canLayAll0, h2, k2]
    · show PyData.depthAll (toP d :: toPs ds) ≤ n
      simp only [PyData.depthAll]
      omega
theorem ok_tup {n : Nat} {ds : List D} (h : ∀ d ∈ ds, Ok n d) : Ok (n + 1) (.tup ds) := by
  obtain ⟨h1, h2, h3⟩ := ok_all h
  exact ⟨h1, by simpa [toP, PyData.canLay0] using h2, by simp only [toP, PyData.depth]; omega⟩
theorem ok_lst {n : Nat} {b : Bool} {ds : List D} (h : ∀ d ∈ ds, Ok n d) : Ok (n + 1) (.lst b ds) := by
  obtain ⟨h1, h2, h3⟩ := ok_all h
  exact ⟨h1, by simpa [toP, PyData.canLay0] using h2, by simp only [toP, PyData.depth]; omega⟩
theorem Ok.p {n : Nat} {d : D} (h : Ok n d) (hn : n ≤ 64 := by decide) : okP d = true := by
  unfold okP SeqAt.shaped
  rw [h.h, h.l, decide_eq_true (Nat.le_trans h.d hn)]; rfl
theorem eqP_self {n : Nat} {a b : D} (h : Ok n a) (e : toP b = toP a) : eqP a b = true := by
  unfold eqP
  rw [e]
  exact SeqAt.eqv_refl _ h.l
theorem vEqX {n : Nat} {a b : D} (h : Ok n a) (k : Ok n b) (e : toP b = toP a) (hn : n ≤ 64 := by decide) : gEq a b = some (.bl true) := by
  unfold gEq
  rw [if_pos ⟨h.p hn, k.p hn⟩, eqP_self h e]
theorem vNeX {n : Nat} {a b : D} (h : Ok n a) (k : Ok n b) (e : toP b = toP a) (hn : n ≤ 64 := by decide) : gNe a b = some (.bl false) := by
  unfold gNe
  rw [if_pos ⟨h.p hn, k.p hn⟩, eqP_self h e]; rfl
theorem toP_lst (b b' : Bool) (ds : List D) : toP (.lst b ds) = toP (.lst b' ds) := by simp only [toP]
/-! ### walks over lists -/
section
variable {g : D → Env → Option Env} {b : MS} {own : List Nat} {t : MT} {m : ME}
/-- a loop with an invariant of the turn's number -/
theorem for_idx (I : Nat → Env → Prop) : ∀ (items : List D) (k0 : Nat) (τ : Env), (∀ k d τ, items[k]? = some d → I (k0 + k) τ → ∃ τ1 τ2, g d τ = some τ1 ∧ (b τ1 = .nx τ2 ∨ b τ1 = .ct τ2) ∧ I (k0 + k + 1) τ2) → I k0 τ → ∃ τ', forL g b items τ = .nx τ' ∧ I (k0 + items.length) τ'
  | [], k0, τ, _, h => ⟨τ, rfl, h⟩
  | d :: ds, k0, τ, hs, h => by
    obtain ⟨τ1, τ2, e1, e2, h2⟩ := hs 0 d τ rfl h
    obtain ⟨τ', e3, h3⟩ := for_idx I ds (k0 + 1) τ2 (fun k d τ hk hI => by
      have := hs (k + 1) d τ (by rw [List.getElem?_cons_succ]; exact hk) (by rw [show k0 + (k + 1) = k0 + 1 + k by omega]; exact hI)
      rw [show k0 + (k + 1) + 1 = k0 + 1 + k + 1 by omega] at this
      exact this) h2
    refine ⟨τ', ?_, ?_⟩
    · rw [x_fo1, e1]
      show forB (b τ1) _ = _
      rcases e2 with e2 | e2 <;> rw [e2]
      · exact e3
      · exact e3
    · rw [List.length_cons, show k0 + (ds.length + 1) = k0 + 1 + ds.length by omega]; exact h3
theorem for_inv (I : Env → Prop) (items : List D) (τ : Env) (hs : ∀ d ∈ items, ∀ τ, I τ → ∃ τ1 τ2, g d τ = some τ1 ∧ (b τ1 = .nx τ2 ∨ b τ1 = .ct τ2) ∧ I τ2) (h : I τ) : ∃ τ', forL g b items τ = .nx τ' ∧ I τ' :=
  for_idx (fun _ => I) items 0 τ (fun k d τ hk hI => hs d (List.mem_of_getElem? hk) τ hI) h
/-- two lists, item by item -/
def All2 (P : D → D → Prop) : List D → List D → Prop
  | [], [] => True
  | x :: xs, y :: ys => P x y ∧ All2 P xs ys
  | _, _ => False
theorem All2.length {P : D → D → Prop} : ∀ {xs ys : List D}, All2 P xs ys → xs.length = ys.length
  | [], [], _ => rfl
  | _ :: _, [], h => h.elim
  | [], _ :: _, h => h.elim
  | _ :: _, _ :: _, h => by rw [List.length_cons, List.length_cons, h.2.length]
/-- a comprehension without a test, whose every turn leaves the names as they were -/
theorem lc_all (P : D → D → Prop) (τ : Env) : ∀ (items acc : List D), acc.length + items.length ≤ 1000000 → (∀ d ∈ items, ∃ e τ1 τ2, g d τ = some τ1 ∧ m τ1 = .ok e τ2 ∧ wipeE τ2 own = τ ∧ P d e) → ∃ es, All2 P items es ∧ lcL own g tTrue m items acc τ = .ok (acc ++ es) τ
  | [], acc, _, _ => ⟨[], trivial, by rw [List.append_nil]; rfl⟩
  | d :: ds, acc, hl, h => by
    obtain ⟨e, τ1, τ2, e1, e2, e3, p⟩ := h d List.mem_cons_self
    rw [List.length_cons] at hl
    obtain ⟨es, q, e4⟩ := lc_all P τ ds (acc ++ [e]) (by rw [List.length_append]; simp only [List.length_cons, List.length_nil]; omega) fun d' hd => h d' (List.mem_cons_of_mem _ hd)
    refine ⟨e :: es, ⟨p, q⟩, ?_⟩
    rw [x_lc1, e1, x_lcG, x_tTrue, x_b1, if_pos rfl, e2, x_b1, if_pos (by omega), e3, e4, List.append_assoc]
    rfl
theorem lc_map {α : Type} (f : α → D) (P : D → D → Prop) (hP : ∀ d e, P d e → ∃ x, e = f x) : ∀ {items es : List D}, All2 P items es → ∃ xs : List α, es = List.map f xs
  | [], [], _ => ⟨[], rfl⟩
  | _ :: _, [], h => h.elim
  | [], _ :: _, h => h.elim
  | d :: _, e :: es, ⟨h1, h2⟩ => by
    obtain ⟨x, rfl⟩ := hP d e h1
    obtain ⟨xs, rfl⟩ := lc_map f P hP h2
    exact ⟨x :: xs, rfl⟩
theorem All2.right {P : D → D → Prop} {Q : D → Prop} (hP : ∀ d e, P d e → Q e) : ∀ {items es : List D}, All2 P items es → ∀ e ∈ es, Q e
  | [], [], _ => by simp
  | _ :: _, [], h => h.elim
  | [], _ :: _, h => h.elim
  | d :: _, e :: es, ⟨h1, h2⟩ => by
    intro x hx
    rcases List.mem_cons.mp hx with rfl | hx
    · exact hP _ _ h1
    · exact All2.right hP h2 x hx
end
theorem fz_map {α : Type} {f : α → D} (h : ∀ p, freeze (f p) = f p) : ∀ xs : List α, freezeL (xs.map f) = xs.map f
  | [] => rfl
  | x :: xs => by rw [List.map_cons, x_fL1, h, fz_map h xs]
/-! ### ranges -/
theorem length_rangeD (lo : Int) (n : Nat) : (rangeD lo n).length = n := by simp [rangeD]
theorem rangeD_get {lo : Int} {n k : Nat} {d : D} (h : (rangeD lo n)[k]? = some d) : k < n ∧ d = .int (lo + (k : Nat)) := by
  unfold rangeD at h
  rw [List.getElem?_map] at h
  by_cases z : k < n
  · rw [List.getElem?_range z] at h
    exact ⟨z, by simpa using h.symm⟩
  · rw [List.getElem?_eq_none (by simp; omega)] at h
    cases h
theorem mem_rangeD {lo : Int} {n : Nat} {d : D} (h : d ∈ rangeD lo n) : ∃ k : Nat, k < n ∧ d = .int (lo + (k : Nat)) := by
  obtain ⟨k, hk⟩ := List.mem_iff_getElem?.mp h
  exact ⟨k, rangeD_get hk⟩
section
variable {ma : MA} {g : D → Env → Option Env} {b : MS} {own : List Nat} {t : MT} {m : ME} {τ τ1 τ2 : Env}
theorem x_range {N : Int} {n : Nat} (h : ma τ = .ok [.int N] τ1) (h1 : 0 ≤ N) (h2 : N < 1000000) (e : N.toNat = n) : iR1 ma τ = .ok (rangeD 0 n) τ1 := by
  rw [x_iR1, h, x_b1, x_iR11 (by omega) (by omega), e]
theorem x_for_range {N : Int} {n : Nat} (h : ma τ = .ok [.int N] τ1) (h1 : 0 ≤ N) (h2 : N < 1000000) (e : N.toNat = n) : sFor (iR1 ma) g b τ = forL g b (rangeD 0 n) τ1 := by
  rw [x_for, x_range h h1 h2 e, x_s1]
theorem x_lc_range {N : Int} {n : Nat} (h : ma τ = .ok [.int N] τ1) (h1 : 0 ≤ N) (h2 : N < 1000000) (e : N.toNat = n) : eLc own (iR1 ma) g t m τ = lcE (lcL own g t m (rangeD 0 n) [] (wipeE τ1 own)) := by
  rw [x_lc, x_range h h1 h2 e, x_b1]
theorem x_cat_ok {ea eb : ME} {x y d : D} (h1 : ea τ = .ok x τ1) (h2 : eb τ1 = .ok y τ2) (h3 : catD (freeze x) (freeze y) = some d) : eCat ea eb τ = .ok d τ2 := by
  rw [x_cat, h1, x_b1, h2, x_b1, h3, x_cat1]
theorem x_asg_ok {gg : D → Env → Option Env} {d : D} (h : m τ = .ok d τ1) (k : gg d τ1 = some τ2) : sAsg m gg τ = .nx τ2 := by
  rw [x_asg, h, x_asg1, k, x_asg4]
theorem x_seq_ok {a c : MS} {r : SR} (h : a τ = .nx τ1) (k : c τ1 = r) : sSeq a c τ = r := by
  rw [x_seq, h, x_seq1, k]
theorem cut_map {α β : Type} (f : α → β) (xs : List α) (lo hi : Option Int) : cutL (xs.map f) lo hi = (cutL xs lo hi).map f := by
  unfold cutL
  rw [List.length_map, List.map_take, List.map_drop]
theorem cut_length_le {α : Type} (xs : List α) (lo hi : Option Int) : (cutL xs lo hi).length ≤ xs.length := by
  unfold cutL
  rw [List.length_take, List.length_drop]
  omega
end
theorem vIxL_of {b : Bool} {xs : List D} {i : Int} {d : D} {k : Nat} (e : i = (k : Nat)) (h : xs[k]? = some d) : gIx (.lst b xs) (.int i) = some d := by
  subst e; rw [vIxL, h]
theorem ix_map {α : Type} (f : α → D) (xs : List α) {i : Int} (h0 : 0 ≤ i) (h1 : i < xs.length) : ∃ x ∈ xs, ∀ b, gIx (.lst b (xs.map f)) (.int i) = some (f x) := by
  obtain ⟨k, rfl⟩ : ∃ k : Nat, i = k := ⟨i.toNat, by omega⟩
  have hk : k < xs.length := by omega
  refine ⟨xs[k], List.getElem_mem hk, fun b => ?_⟩
  rw [vIxL, List.getElem?_map, List.getElem?_eq_getElem hk]; rfl
theorem cF_ok {n N : Nat} {b : MS} {ds : List D} {τ0 : Env} {r : SR} (hl : ds.length = n) (hτ : ds.map some ++ List.replicate (N - n) none = τ0) (h : b τ0 = r) : callF n N b ds = callR r := by
  rw [x_cF, if_pos hl, hτ, h]
end Bn

/-! The head by facts: what the top has written is asked of one part of the heap, at one run. -/
namespace Bn
open PySem PySem.Spec PyProof.Rows L2
open HandSHeadRun (frNat frNat_eq)
/-! ### a part of the heap, forced -/
section
variable {α : Type}
def frNs : List Nat → (List Nat → α) → α
  | [], k => k []
  | a :: r, k => frNat a fun a => frNs r fun l => k (a :: l)
theorem frNs_eq : ∀ (l : List Nat) (k : List Nat → α), frNs l k = k l
  | [], _ => rfl
  | a :: r, k => by show frNat a _ = _; rw [frNat_eq, frNs_eq r]
def frV (v : Value) (k : Value → α) : α := match v with
  | .ref a => frNat a fun a => k (.ref a)
  | .str s t => k (.str s t)
  | .builtin i => k (.builtin i)
  | .type i => k (.type i)
  | .int i t => k (.int i t)
  | .none => k .none
  | .bool b => k (.bool b)
  | v => k v
theorem frV_eq (v : Value) (k : Value → α) : frV v k = k v := by
  cases v with
  | ref a => exact frNat_eq a (fun a => k (.ref a))
  | _ => rfl
def frK (v : Value) (k : Value → α) : α := match v with
  | .str s t => frNs s.cps.toList fun l => k (.str ⟨l.toArray⟩ t)
  | v => k v
theorem frK_eq (v : Value) (k : Value → α) : frK v k = k v := by
  cases v with
  | str s t => show frNs _ _ = _; rw [frNs_eq]
  | _ => rfl
def frEs : List DictEntry → (List DictEntry → α) → α
  | [], k => k []
  | e :: r, k => frK e.key fun x => frV e.val fun v => frEs r fun l => k (⟨e.hash, x, v⟩ :: l)
theorem frEs_eq : ∀ (l : List DictEntry) (k : List DictEntry → α), frEs l k = k l
  | [], _ => rfl
  | e :: r, k => by show frK _ _ = _; rw [frK_eq, frV_eq, frEs_eq r]
def frVs : List Value → (List Value → α) → α
  | [], k => k []
  | v :: r, k => frV v fun v => frVs r fun l => k (v :: l)
theorem frVs_eq : ∀ (l : List Value) (k : List Value → α), frVs l k = k l
  | [], _ => rfl
  | v :: r, k => by show frV _ _ = _; rw [frV_eq, frVs_eq r]
def frO (o : Obj) (k : Obj → α) : α := match o with
  | ⟨c, d, .dict es n, sl⟩ => frEs es.toList fun l => k ⟨c, d, .dict l.toArray n, sl⟩
  | ⟨c, d, .func ⟨a1, a2, a3, a4, a5, a6, a7, a8, a9, a10, a11, a12, a13, a14, a15⟩, sl⟩ => k ⟨c, d, .func ⟨a1, a2, a3, a4, a5, a6, a7, a8, a9, a10, a11, a12, a13, a14, a15⟩, sl⟩
  | ⟨c, d, .cls ⟨a1, a2, a3, a4, a5, a6, a7, a8, a9, a10, a11⟩, sl⟩ => frVs a3 fun a3 => frNat a4 fun a4 => k ⟨c, d, .cls ⟨a1, a2, a3, a4, a5, a6, a7, a8, a9, a10, a11⟩, sl⟩
  | ⟨c, d, .fields vs, sl⟩ => k ⟨c, d, .fields vs, sl⟩
  | ⟨c, d, .seq vs n, sl⟩ => frVs vs.toList fun l => k ⟨c, d, .seq l.toArray n, sl⟩
  | ⟨c, d, dt, sl⟩ => k ⟨c, d, dt, sl⟩
theorem frO_eq (o : Obj) (k : Obj → α) : frO o k = k o := by
  obtain ⟨c, d, dt, sl⟩ := o
  cases dt with
  | dict es n => show frEs _ _ = _; rw [frEs_eq]
  | func fd => rfl
  | cls cd => show frVs _ _ = _; rw [frVs_eq, frNat_eq]
  | seq vs n => show frVs _ _ = _; rw [frVs_eq]
  | _ => rfl
def frF (g : Addr → Option Obj) : List Addr → (PySem.W.Frag → α) → α
  | [], k => k []
  | a :: r, k => match g a with
    | none => frF g r k
    | some o => frO o fun o => frF g r fun K => k ((a, o) :: K)
theorem frF_eq (g : Addr → Option Obj) : ∀ (as : List Addr) (k : PySem.W.Frag → α), frF g as k = k (He.frG g as)
  | [], _ => rfl
  | a :: r, k => by
    unfold frF He.frG
    cases e : g a with
    | none =>
      rw [List.filterMap_cons, e]
      exact frF_eq g r k
    | some o =>
      rw [List.filterMap_cons, e]
      show frO o _ = _
      rw [frO_eq, frF_eq g r]
      rfl
end
def valsO (o : Obj) : List Addr := match o.data with
  | .dict es _ => es.toList.flatMap fun e => He.refV e.val
  | _ => []
def nextO (o : Obj) : List Addr := match o.data with
  | .func fd => He.refV fd.code
  | .cls cd => [cd.ns]
  | _ => []
def atO (g : Addr → Option Obj) (f : Obj → List Addr) (a : Addr) : List Addr := match g a with
  | some o => f o
  | none => []
/-- the module's names, what they hold, their namespaces' objects, their codes -/
def fragC {α : Type} (g : Addr → Option Obj) (k : PySem.W.Frag → α) : α :=
  frNs (atO g valsO mainGlobals) fun l1 => frNs (l1.flatMap (atO g nextO)) fun l2 => frNs (l2.flatMap (atO g valsO)) fun l3 => frNs (l3.flatMap (atO g nextO)) fun l4 =>
    frF g (mainGlobals :: (l1 ++ (l2 ++ (l3 ++ l4)))) k
def asC (g : Addr → Option Obj) : List Addr :=
  let l1 := atO g valsO mainGlobals
  let l2 := l1.flatMap (atO g nextO)
  let l3 := l2.flatMap (atO g valsO)
  mainGlobals :: (l1 ++ (l2 ++ (l3 ++ l3.flatMap (atO g nextO))))
theorem fragC_eq {α : Type} (g : Addr → Option Obj) (k : PySem.W.Frag → α) : fragC g k = k (He.frG g (asC g)) := by
  unfold fragC
  rw [frNs_eq, frNs_eq, frNs_eq, frNs_eq, frF_eq]
  rfl
/-- the facts, the functions, one Bool more -/
def obB (fa : List He.Fa) (fn : List He.FnD) (ex : PySem.W.Frag → Bool) (K : PySem.W.Frag) : He.Al × Bool := (He.obsE fa fn K, ex K)
def obBG (fa : List He.Fa) (fn : List He.FnD) (ex : PySem.W.Frag → Bool) (g : Addr → Option Obj) : He.Al × Bool := obB fa fn ex (He.frG g (asC g))
def hkB (fa : List He.Fa) (fn : List He.FnD) (ex : PySem.W.Frag → Bool) : PySem.W.Hook where
  α := He.Al × Bool
  obs := fun s => obBG fa fn ex s.heap.get?
  val := fun _ => (He.valE fn, true)
  says := fun _ h => ∃ K : PySem.W.Frag, K.In h ∧ He.SaysE fa fn K ∧ ex K = true
  of := fun _ _ e => ⟨_, He.frG_in, congrArg Prod.fst e, congrArg Prod.snd e⟩
  keeps := fun _ _ _ ⟨K, a, b, c⟩ k => ⟨K, PySem.W.Frag.In.keeps a k, b, c⟩
theorem obBG_eq {fa : List He.Fa} {fn : List He.FnD} {ex : PySem.W.Frag → Bool} {g : Addr → Option Obj} {s : Shared} (h : ∀ a, g a = s.heap.get? a) : obBG fa fn ex g = (hkB fa fn ex).obs s := by
  have e : g = s.heap.get? := funext h
  rw [e]; rfl
/-- one question of that part, asked by itself -/
def obQ {β : Type} (q : PySem.W.Frag → β) (s : PySem.W.SharedT) : β := fragC (HandSHeadRun.getT s) q
def RunQ {β : Type} (r : PySem.W.OpenRow) (M : Nat) (w : World) (q : PySem.W.SharedT → β) (v : β) : Prop :=
  ∀ os : OsState, (HandSHeadRun.endF (HandSHeadRun.stepQ (HandSHeadRun.denQ HandSHeadRun.tabQ) r.prog w) M r.prog w os).map q = some v
theorem RunQ.and {β γ : Type} {r : PySem.W.OpenRow} {M : Nat} {w : World} {q1 : PySem.W.SharedT → β} {v1 : β} {q2 : PySem.W.SharedT → γ} {v2 : γ} (h1 : RunQ r M w q1 v1) (h2 : RunQ r M w q2 v2) : RunQ r M w (fun s => (q1 s, q2 s)) (v1, v2) := by
  intro os
  have e1 := h1 os
  have e2 := h2 os
  revert e1 e2
  generalize HandSHeadRun.endF _ M r.prog w os = o
  intro e1 e2
  cases o with
  | none => cases e1
  | some s =>
    have f1 : q1 s = v1 := Option.some.inj e1
    have f2 : q2 s = v2 := Option.some.inj e2
    show some (q1 s, q2 s) = _
    rw [f1, f2]
theorem RunQ.to {β γ : Type} {r : PySem.W.OpenRow} {M : Nat} {w : World} {q : PySem.W.SharedT → β} {v : β} {p : PySem.W.SharedT → γ} {u : γ} (h : RunQ r M w q v) (t : ∀ s, q s = v → p s = u) : RunQ r M w p u := by
  intro os
  have e := h os
  revert e
  generalize HandSHeadRun.endF _ M r.prog w os = o
  intro e
  cases o with
  | none => cases e
  | some s =>
    have f : q s = v := Option.some.inj e
    show some (p s) = _
    rw [t s f]
/-- the parts of the Hook's word, one after the other -/
def qFa (fa : List He.Fa) (K : PySem.W.Frag) : Bool := fa.all fun f => f.ok K
def qCd (fn : List He.FnD) (K : PySem.W.Frag) : Bool := fn.all fun d => (He.Fa.code d.at_ d.qual).ok K
def qFn (fn : List He.FnD) (K : PySem.W.Frag) : List He.FnV := fn.map fun d => He.fnObs K d.at_
/-- a law's end over such a head -/
theorem walkB {l : PySem.W.OpenLaw} {n k : Nat} {q : Program} {loose : List Str} {XP : (Str → Option Value) → Heap → Prop} {YP : World → Heap → Prop} {d : DefRec} {CX : World → CXT} {x : Str}
    (m1 : l.most = some n) (m2 : n ≤ sizeLine) (df : d.params.defaults = []) (ro : Room k callerA)
    (all : ∀ (w : World) (mg : Str → Option Value) (fa : Addr) (h : Heap), YP w h → h.Ns mainGlobals mg → mg d.name = some (.ref fa) →
      ∃ (K : PySem.W.Frag) (fd : FuncData) (sp : Sp), K.In h ∧ (∀ (s : Shared) (u : Value), BindsTo s fd ⟨[u], []⟩ [(x, u)]) ∧
        (∀ (H : Hp) (a : Addr) (ns : List Int), ns.length ≤ n → Only H → SqL K H a (ns.map V.int) → sp [.ref a] H (fun v _ => v = .bl true) fun _ _ _ => False) ∧
        ∀ base : Heap, K.In base → base.Ns mainGlobals mg → FnOk l.prog w K mg base (CX w) k fa fd [x] sp)
    (no : ∀ (w : World) (H : Hp) (s : Shared) (e : Value) (s' : Shared), CX w [] H s (fun _ _ _ => False) e s' → False) : PySem.W.WalkO q loose XP YP l.row.toRowW d [] (fun f vs => PySem.call f vs) := by
  refine Att.attach_call m1 df fun w s₀ s₁ mg mb fa o pm cd doc a vs ns G Y h1 h2 h3 h4 h5 h6 hlen h7 => ?_
  obtain ⟨K, fd, sp, KX, b, c, F⟩ := all w mg fa _ Y G.T.g h4
  refine law_call KX G.T.g G.T.b G.T.builtins G.T.nolimit h7 h5 h6 (Nat.le_trans hlen m2) ro F b (fun H u v => c H a ns hlen u v) fun H e s' => no w H s₁ e s'
theorem eqO' {a b : Option (Option Value)} (h : He.eqO a b = true) : a = b := He.eqO_ok h
theorem decT {p : Prop} [Decidable p] (h : decide p = true) : p := of_decide_eq_true h
theorem dv_strs (K : PySem.W.Frag) : ∀ ss : List Str, (ss.map He.Dv.str).map (He.Dv.v K) = ss.map V.str
  | [] => rfl
  | s :: r => by rw [List.map_cons, List.map_cons, List.map_cons, dv_strs K r]; rfl
theorem kc_tupR {K : PySem.W.Frag} {mg : Str → Option Value} {x : Str} {ss : List Str} (h : mg x = some (.ref (He.ga K x))) (e : He.tupB K x (ss.map He.Dv.str) = true) : Kc K mg x (.tup (ss.map D.str)) :=
  kc_tupS h fun H => by rw [← dv_strs K]; exact He.tupB_ok e H
end Bn

namespace Lw
open PySem PySem.Spec PyProof.Rows L2 Bn
/-! ### the text -/
def topS (i : Nat) : Stmt := PySem.Challenge.pw_boxnarrow_k72_islands.main.body.getD i (.Pass ⟨0, 0, 0, 0⟩)
abbrev s_common : Stmt := topS 1
theorem sc_common : FnScope ["a", "b", "low", "high"] ["a", "b"] (defScope s_common) := ⟨rfl, rfl, rfl, by decide +kernel, rfl, by decide +kernel, by decide +kernel⟩
abbrev s_touch : Stmt := topS 4
theorem sc_touch : FnScope ["one", "other", "k"] ["one", "other"] (defScope s_touch) := ⟨rfl, rfl, rfl, by decide +kernel, rfl, by decide +kernel, by decide +kernel⟩
abbrev s_grown_from : Stmt := topS 5
theorem sc_grown_from : FnScope ["boxes", "first", "numbers", "at", "k"] ["boxes", "first"] (defScope s_grown_from) := ⟨rfl, rfl, rfl, by decide +kernel, rfl, by decide +kernel, by decide +kernel⟩
abbrev s_hull : Stmt := topS 2
theorem sc_hull : FnScope ["a", "b"] ["a", "b"] (defScope s_hull) := ⟨rfl, rfl, rfl, by decide +kernel, rfl, by decide +kernel, by decide +kernel⟩
abbrev s_hull_of : Stmt := topS 6
theorem sc_hull_of : FnScope ["boxes", "numbers", "spans", "number", "k"] ["boxes", "numbers"] (defScope s_hull_of) := ⟨rfl, rfl, rfl, by decide +kernel, rfl, by decide +kernel, by decide +kernel⟩
abbrev s_islands : Stmt := topS 7
theorem sc_islands : FnScope ["boxes", "found", "done", "first", "numbers", "number"] ["boxes"] (defScope s_islands) := ⟨rfl, rfl, rfl, by decide +kernel, rfl, by decide +kernel, by decide +kernel⟩
abbrev s__law_mix : Stmt := topS 10
theorem sc__law_mix : FnScope ["_law_cell", "_law_k"] ["_law_cell", "_law_k"] (defScope s__law_mix) := ⟨rfl, rfl, rfl, by decide +kernel, rfl, by decide +kernel, by decide +kernel⟩
abbrev s__law_box : Stmt := topS 13
theorem sc__law_box : FnScope ["_law_cell", "_law_size", "_law_wide", "_law_box_here", "_law_k", "_law_low"] ["_law_cell", "_law_size", "_law_wide"] (defScope s__law_box) := ⟨rfl, rfl, rfl, by decide +kernel, rfl, by decide +kernel, by decide +kernel⟩
abbrev s__law_whole : Stmt := topS 11
theorem sc__law_whole : FnScope ["_law_found"] ["_law_found"] (defScope s__law_whole) := ⟨rfl, rfl, rfl, by decide +kernel, rfl, by decide +kernel, by decide +kernel⟩
abbrev s__law_alike : Stmt := topS 12
theorem sc__law_alike : FnScope ["_law_found", "_law_due_here", "_law_k"] ["_law_found", "_law_due_here"] (defScope s__law_alike) := ⟨rfl, rfl, rfl, by decide +kernel, rfl, by decide +kernel, by decide +kernel⟩
abbrev s__law_cell_at : Stmt := topS 9
theorem sc__law_cell_at : FnScope ["_law_script", "_law_k"] ["_law_script", "_law_k"] (defScope s__law_cell_at) := ⟨rfl, rfl, rfl, by decide +kernel, rfl, by decide +kernel, by decide +kernel⟩
abbrev s__law_far : Stmt := topS 17
theorem sc__law_far : FnScope ["_law_box_here", "_law_factor", "_law_moved", "_law_low", "_law_high"] ["_law_box_here", "_law_factor", "_law_moved"] (defScope s__law_far) := ⟨rfl, rfl, rfl, by decide +kernel, rfl, by decide +kernel, by decide +kernel⟩
abbrev s__law_touch : Stmt := topS 14
theorem sc__law_touch : FnScope ["_law_one", "_law_other", "_law_k"] ["_law_one", "_law_other"] (defScope s__law_touch) := ⟨rfl, rfl, rfl, by decide +kernel, rfl, by decide +kernel, by decide +kernel⟩
abbrev s__law_marks : Stmt := topS 15
theorem sc__law_marks : FnScope ["_law_boxes", "_law_marks_here", "_law_at", "_law_box_here", "_law_mine", "_law_k", "_law_least", "_law_mark"] ["_law_boxes"] (defScope s__law_marks) := ⟨rfl, rfl, rfl, by decide +kernel, rfl, by decide +kernel, by decide +kernel⟩
abbrev s__law_due : Stmt := topS 16
theorem sc__law_due : FnScope ["_law_boxes", "_law_size", "_law_marks_here", "_law_due_here", "_law_at", "_law_numbers", "_law_k", "_law_ends", "_law_low", "_law_number"] ["_law_boxes", "_law_size"] (defScope s__law_due) := ⟨rfl, rfl, rfl, by decide +kernel, rfl, by decide +kernel, by decide +kernel⟩
abbrev s_law : Stmt := topS 18
theorem sc_law : FnScope ["_law_script", "_law_size", "_law_wide", "_law_boxes", "_law_cell", "_law_moved", "_law_box_here", "_law_handed", "_law_found"] ["_law_script"] (defScope s_law) := ⟨rfl, rfl, rfl, by decide +kernel, rfl, by decide +kernel, by decide +kernel⟩
/-! ### the functions -/
def m_common : MS := (sSeq (sAsg (eZ (zC' gMax2 (zaCons (z2 gIx (zVar 0) (zC (.int 0))) (zaCons (z2 gIx (zVar 1) (zC (.int 0))) zaNil)))) (gN 2))
    (sSeq (sAsg (eZ (zC' gMin2 (zaCons (z2 gIx (zVar 0) (zC (.int 1))) (zaCons (z2 gIx (zVar 1) (zC (.int 1))) zaNil)))) (gN 3))
    (sSeq (sIf (tZ (z2 gLt (zVar 3) (zVar 2))) (sRet (eZ (zC .non))) sNil)
    (sRet (eTup (aCons (eVar 2) (aCons (eVar 3) aNil)))))))
def f_common : List D → CR := callF 2 4 m_common
def l_touch_1 : MS := (sIf (tE (e2 gIsN (eCall f_common (aCons (eZ (z2 gIx (zVar 0) (zVar 2))) (aCons (eZ (z2 gIx (zVar 1) (zVar 2))) aNil))) (eZ (zC .non)))) (sRet (eZ (zC (.bl false)))) sNil)
def w_touch_1 : MS := (sFor (iR1 (aCons (eZ (zC' gLen (zaCons (zVar 0) zaNil))) aNil)) (gN 2) l_touch_1)
def u_touch_1 : MS := (sRet (eZ (zC (.bl true))))
def m_touch : MS := (sSeq w_touch_1 u_touch_1)
def f_touch : List D → CR := callF 2 3 m_touch
def fuel_grown_from1 : Bn.Env → Nat := fun τ => match τ.getD 0 none with | some (.lst _ xs) => xs.length + 2 | _ => 0
def l_grown_from_1 : MS := (sIf (tAnd (tZ (z2 (gIn true) (zVar 4) (zVar 2))) (tE (eCall f_touch (aCons (eZ (z2 gIx (zVar 0) (z2 gIx (zVar 2) (zVar 3)))) (aCons (eZ (z2 gIx (zVar 0) (zVar 4))) aNil))))) (sApp 2 (eVar 4)) sNil)
def w_grown_from_1 : MS := (sFor (iR1 (aCons (eZ (zC' gLen (zaCons (zVar 0) zaNil))) aNil)) (gN 4) l_grown_from_1)
def u_grown_from_3 : MS := (sRet (eSorted (aCons (eVar 2) aNil)))
def u_grown_from_2 : MS := (sSeq (sWhile fuel_grown_from1 (tZ (z2 gLt (zVar 3) (zC' gLen (zaCons (zVar 2) zaNil)))) (sSeq w_grown_from_1
    (sAsg (eZ (z2 gAdd (zVar 3) (zC (.int 1)))) (gN 3)))) u_grown_from_3)
def u_grown_from_1 : MS := (sSeq (sAsg (eZ (zC (.int 0))) (gN 3)) u_grown_from_2)
def m_grown_from : MS := (sSeq (sAsg (eLst (aCons (eVar 1) aNil)) (gN 2)) u_grown_from_1)
def f_grown_from : List D → CR := callF 2 5 m_grown_from
def m_hull : MS := (sRet (eTup (aCons (eZ (zC' gMin2 (zaCons (z2 gIx (zVar 0) (zC (.int 0))) (zaCons (z2 gIx (zVar 1) (zC (.int 0))) zaNil)))) (aCons (eZ (zC' gMax2 (zaCons (z2 gIx (zVar 0) (zC (.int 1))) (zaCons (z2 gIx (zVar 1) (zC (.int 1))) zaNil)))) aNil))))
def f_hull : List D → CR := callF 2 2 m_hull
def c_hull_of_1 : ME := (eLc [4] (iR1 (aCons (eZ (zC' gLen (zaCons (zVar 2) zaNil))) aNil)) (gN 4) tTrue (eCall f_hull (aCons (eZ (z2 gIx (zVar 2) (zVar 4))) (aCons (eZ (z2 gIx (z2 gIx (zVar 0) (zVar 3)) (zVar 4))) aNil))))
def l_hull_of_1 : MS := (sAsg c_hull_of_1 (gN 2))
def w_hull_of_1 : MS := (sFor (iL (eVar 1)) (gN 3) l_hull_of_1)
def u_hull_of_2 : MS := (sRet (eMv 2))
def u_hull_of_1 : MS := (sSeq w_hull_of_1 u_hull_of_2)
def m_hull_of : MS := (sSeq (sAsg (eLstOf (aCons (eZ (z2 gIx (zVar 0) (z2 gIx (zVar 1) (zC (.int 0))))) aNil)) (gN 2)) u_hull_of_1)
def f_hull_of : List D → CR := callF 2 5 m_hull_of
def l_islands_1 : MS := (sDPut' 2 (zVar 5) (eZ (zC (.bl true))))
def w_islands_1 : MS := (sFor (iL (eVar 4)) (gN 5) l_islands_1)
def l_islands_2 : MS := (sSeq (sIf (tZ (z2 (gDIn false) (zVar 3) (zVar 2))) sCt sNil)
    (sSeq (sAsg (eCall f_grown_from (aCons (eVar 0) (aCons (eVar 3) aNil))) (gN 4))
    (sSeq w_islands_1
    (sApp 1 (eTup (aCons (eVar 4) (aCons (eCall f_hull_of (aCons (eVar 0) (aCons (eVar 4) aNil))) aNil)))))))
def w_islands_2 : MS := (sFor (iR1 (aCons (eZ (zC' gLen (zaCons (zVar 0) zaNil))) aNil)) (gN 3) l_islands_2)
def u_islands_3 : MS := (sRet (eMv 1))
def u_islands_2 : MS := (sSeq w_islands_2 u_islands_3)
def u_islands_1 : MS := (sSeq (sAsg eDct (gN 2)) u_islands_2)
def m_islands : MS := (sSeq (sAsg (eLst aNil) (gN 1)) u_islands_1)
def f_islands : List D → CR := callF 1 6 m_islands
def m__law_mix : MS := (sRet (eZ (z2 gMod (z2 gAdd (z2 gMulS (z2 gMulS (zVar 0) (z2 gAdd (z2 gMulS (zC (.int 2)) (zVar 1)) (zC (.int 3)))) (zC (.int 48271))) (z2 gMulS (z2 gMulS (zVar 1) (zVar 1)) (zC (.int 7919)))) (zC (.int 2147483647)))))
def f__law_mix : List D → CR := callF 2 2 m__law_mix
def l__law_box_1 : MS := (sSeq (sAsg (e2 gMod (eCall f__law_mix (aCons (eVar 0) (aCons (eVar 4) aNil))) (eVar 2)) (gN 5))
    (sApp 3 (eTup (aCons (eVar 5) (aCons (e2 gAdd (eVar 5) (e2 gMod (eCall f__law_mix (aCons (eVar 0) (aCons (eZ (z2 gAdd (zVar 4) (zC (.int 10)))) aNil))) (eZ (zC (.int 5))))) aNil)))))
def w__law_box_1 : MS := (sFor (iR1 (aCons (eVar 1) aNil)) (gN 4) l__law_box_1)
def u__law_box_2 : MS := (sRet (eMv 3))
def u__law_box_1 : MS := (sSeq w__law_box_1 u__law_box_2)
def m__law_box : MS := (sSeq (sAsg (eLst aNil) (gN 3)) u__law_box_1)
def f__law_box : List D → CR := callF 3 6 m__law_box
def m__law_whole : MS := (sRet (eAnd (eZ (zC' gIsi (zaCons (zVar 0) (zaCons (zC (.ty "int")) zaNil)))) (eNot (eZ (zC' gIsi (zaCons (zVar 0) (zaCons (zC (.ty "bool")) zaNil)))))))
def f__law_whole : List D → CR := callF 1 1 m__law_whole
def m__law_alike (f__law_alike : List D → CR) : MS := (sSeq (sIf (tOr (tZ (zC' gIsi (zaCons (zVar 1) (zaCons (zC (.ty "list")) zaNil)))) (tZ (zC' gIsi (zaCons (zVar 1) (zaCons (zC (.ty "tuple")) zaNil))))) (sSeq (sIf (tOr (tZ (z2 gNe (zC' gIsi (zaCons (zVar 1) (zaCons (zC (.ty "list")) zaNil))) (zC' gIsi (zaCons (zVar 0) (zaCons (zC (.ty "list")) zaNil))))) (tZ (z2 gNe (zC' gIsi (zaCons (zVar 1) (zaCons (zC (.ty "tuple")) zaNil))) (zC' gIsi (zaCons (zVar 0) (zaCons (zC (.ty "tuple")) zaNil)))))) (sRet (eZ (zC (.bl false)))) sNil)
    (sSeq (sIf (tZ (z2 gNe (zC' gLen (zaCons (zVar 0) zaNil)) (zC' gLen (zaCons (zVar 1) zaNil)))) (sRet (eZ (zC (.bl false)))) sNil)
    (sRet (eC gAll (aCons (eLc [2] (iR1 (aCons (eZ (zC' gLen (zaCons (zVar 1) zaNil))) aNil)) (gN 2) tTrue (eCall f__law_alike (aCons (eZ (z2 gIx (zVar 0) (zVar 2))) (aCons (eZ (z2 gIx (zVar 1) (zVar 2))) aNil)))) aNil))))) sNil)
    (sSeq (sIf (tZ (zC' gIsi (zaCons (zVar 1) (zaCons (zC (.ty "int")) zaNil)))) (sRet (eAnd (eCall f__law_whole (aCons (eVar 0) aNil)) (eZ (z2 gEq (zVar 0) (zVar 1))))) sNil)
    (sRet (eAnd (eZ (zC' gIsi (zaCons (zVar 0) (zaCons (zC (.ty "str")) zaNil)))) (eZ (z2 gEq (zVar 0) (zVar 1)))))))
def fr__law_alike : Nat → List D → CR
  | 0 => fun _ => .bad
  | n + 1 => callF 2 3 (m__law_alike (fr__law_alike n))
def f__law_alike : List D → CR := fr__law_alike 8
def m__law_cell_at : MS := (sSeq (sIf (tZ (z2 gLt (zVar 1) (zC' gLen (zaCons (zVar 0) zaNil)))) (sRet (eZ (z2 gIx (zVar 0) (zVar 1)))) sNil)
    (sRet (eZ (zC (.int 0)))))
def f__law_cell_at : List D → CR := callF 2 2 m__law_cell_at
def c__law_far_1 : ME := (eLc [3, 4] (iL (eVar 0)) (gT 2 (gCons' (gN 3) (gCons' (gN 4) gNil'))) tTrue (eTup (aCons (eZ (z2 gSub (z2 gMul (zVar 3) (zVar 1)) (zVar 2))) (aCons (eZ (z2 gSub (z2 gMul (zVar 4) (zVar 1)) (zVar 2))) aNil))))
def m__law_far : MS := (sRet c__law_far_1)
def f__law_far : List D → CR := callF 3 5 m__law_far
def l__law_touch_1 : MS := (sIf (tOr (tZ (z2 gLt (z2 gIx (z2 gIx (zVar 0) (zVar 2)) (zC (.int 1))) (z2 gIx (z2 gIx (zVar 1) (zVar 2)) (zC (.int 0))))) (tZ (z2 gLt (z2 gIx (z2 gIx (zVar 1) (zVar 2)) (zC (.int 1))) (z2 gIx (z2 gIx (zVar 0) (zVar 2)) (zC (.int 0)))))) (sRet (eZ (zC (.bl false)))) sNil)
def w__law_touch_1 : MS := (sFor (iR1 (aCons (eZ (zC' gLen (zaCons (zVar 0) zaNil))) aNil)) (gN 2) l__law_touch_1)
def u__law_touch_1 : MS := (sRet (eZ (zC (.bl true))))
def m__law_touch : MS := (sSeq w__law_touch_1 u__law_touch_1)
def f__law_touch : List D → CR := callF 2 3 m__law_touch
def c__law_marks_1 : ME := (eLc [5] (iR1 (aCons (eVar 2) aNil)) (gN 5) (tE (eCall f__law_touch (aCons (eZ (z2 gIx (zVar 0) (zVar 5))) (aCons (eVar 3) aNil)))) (eZ (z2 gIx (zVar 1) (zVar 5))))
def c__law_marks_2 : ME := (eLc [7] (iL (eVar 1)) (gN 7) tTrue (eIf (tZ (z2 (gIn false) (zVar 7) (zVar 4))) (eVar 6) (eVar 7)))
def l__law_marks_1 : MS := (sSeq (sAsg (eCat c__law_marks_1 (eLst (aCons (eVar 2) aNil))) (gN 4))
    (sSeq (sAsg (eZ (zC' gMinL (zaCons (zVar 4) zaNil))) (gN 6))
    (sAsg (eCat c__law_marks_2 (eLst (aCons (eVar 6) aNil))) (gN 1))))
def w__law_marks_1 : MS := (sFor (iE (aCons (eVar 0) aNil)) (gT 2 (gCons' (gN 2) (gCons' (gN 3) gNil'))) l__law_marks_1)
def u__law_marks_2 : MS := (sRet (eMv 1))
def u__law_marks_1 : MS := (sSeq w__law_marks_1 u__law_marks_2)
def m__law_marks : MS := (sSeq (sAsg (eLst aNil) (gN 1)) u__law_marks_1)
def f__law_marks : List D → CR := callF 1 8 m__law_marks
def c__law_due_1 : ME := (eLc [6] (iR1 (aCons (eZ (zC' gLen (zaCons (zVar 0) zaNil))) aNil)) (gN 6) (tZ (z2 gEq (z2 gIx (zVar 2) (zVar 6)) (zVar 4))) (eVar 6))
def c__law_due_2 : ME := (eLc [9] (iL (eVar 5)) (gN 9) tTrue (eZ (z2 gIx (z2 gIx (z2 gIx (zVar 0) (zVar 9)) (zVar 6)) (zC (.int 0)))))
def c__law_due_3 : ME := (eLc [9] (iL (eVar 5)) (gN 9) tTrue (eZ (z2 gIx (z2 gIx (z2 gIx (zVar 0) (zVar 9)) (zVar 6)) (zC (.int 1)))))
def l__law_due_1 : MS := (sSeq (sAsg (eC gMinL (aCons c__law_due_2 aNil)) (gN 8))
    (sApp 7 (eTup (aCons (eVar 8) (aCons (eC gMaxL (aCons c__law_due_3 aNil)) aNil)))))
def w__law_due_1 : MS := (sFor (iR1 (aCons (eVar 1) aNil)) (gN 6) l__law_due_1)
def l__law_due_2 : MS := (sIf (tZ (z2 gEq (z2 gIx (zVar 2) (zVar 4)) (zVar 4))) (sSeq (sAsg c__law_due_1 (gN 5))
    (sSeq (sAsg (eLst aNil) (gN 7))
    (sSeq w__law_due_1
    (sApp 3 (eTup (aCons (eVar 5) (aCons (eVar 7) aNil))))))) sNil)
def w__law_due_2 : MS := (sFor (iR1 (aCons (eZ (zC' gLen (zaCons (zVar 0) zaNil))) aNil)) (gN 4) l__law_due_2)
def u__law_due_3 : MS := (sRet (eMv 3))
def u__law_due_2 : MS := (sSeq w__law_due_2 u__law_due_3)
def u__law_due_1 : MS := (sSeq (sAsg (eLst aNil) (gN 3)) u__law_due_2)
def m__law_due : MS := (sSeq (sAsg (eCall f__law_marks (aCons (eVar 0) aNil)) (gN 2)) u__law_due_1)
def f__law_due : List D → CR := callF 2 10 m__law_due
def c_law_1 : ME := (eLc [4] (iL (eSlice cutLd (eVar 0) (pSome (eZ (zC (.int 2)))) (pSome (eZ (zC (.int 32)))))) (gN 4) tTrue (eCall f__law_box (aCons (eVar 4) (aCons (eVar 1) (aCons (eVar 2) aNil)))))
def c_law_2 : ME := (eLc [6] (iL (eVar 3)) (gN 6) tTrue (eCall f__law_far (aCons (eVar 6) (aCons (eZ (z2 gPow (zC (.int 10)) (zC (.int 12)))) (aCons (eVar 5) aNil)))))
def c_law_3 : ME := (eLc [6] (iL (eVar 3)) (gN 6) tTrue (eLstOf (aCons (eVar 6) aNil)))
def u_law_6 : MS := (sRet (eAnd (eCall f__law_alike (aCons (eVar 8) (aCons (eCall f__law_due (aCons (eVar 3) (aCons (eVar 1) aNil))) aNil))) (eZ (z2 gEq (zVar 7) (zVar 3)))))
def u_law_5 : MS := (sSeq (sAsg (eCall f_islands (aCons (eVar 7) aNil)) (gN 8)) u_law_6)
def u_law_4 : MS := (sSeq (sAsg c_law_3 (gN 7)) u_law_5)
def u_law_3 : MS := (sSeq (sIf (tE (e2 gEq (e2 gMod (eCall f__law_cell_at (aCons (eVar 0) (aCons (eZ (zC (.int 1))) aNil))) (eZ (zC (.int 3)))) (eZ (zC (.int 1))))) (sSeq (sAsg (e2 gMod (e2 gDiv (eCall f__law_cell_at (aCons (eVar 0) (aCons (eZ (zC (.int 1))) aNil))) (eZ (zC (.int 3)))) (eZ (z2 gMul (zC (.int 3)) (z2 gPow (zC (.int 10)) (zC (.int 13)))))) (gN 5))
    (sAsg c_law_2 (gN 3))) sNil) u_law_4)
def u_law_2 : MS := (sSeq (sAsg c_law_1 (gN 3)) u_law_3)
def u_law_1 : MS := (sSeq (sAsg (e2 gIx (eLst (aCons (eZ (zC (.int 10))) (aCons (eZ (zC (.int 14))) (aCons (eZ (zC (.int 22))) (aCons (eZ (zC (.int 40))) aNil))))) (e2 gMod (e2 gDiv (eCall f__law_cell_at (aCons (eVar 0) (aCons (eZ (zC (.int 0))) aNil))) (eZ (zC (.int 3)))) (eZ (zC (.int 4))))) (gN 2)) u_law_2)
def m_law : MS := (sSeq (sAsg (e2 gAdd (eZ (zC (.int 1))) (e2 gMod (eCall f__law_cell_at (aCons (eVar 0) (aCons (eZ (zC (.int 0))) aNil))) (eZ (zC (.int 3))))) (gN 1)) u_law_1)
def f_law : List D → CR := callF 1 9 m_law
end Lw
namespace Lw
open PySem PySem.Spec PyProof.Rows L2 Bn
--HRUNA
def fd0 : He.FnD := ⟨("common", none), "common", "common", defArgs s_common, defBody s_common, defScope s_common⟩
def fd1 : He.FnD := ⟨("touch", none), "touch", "touch", defArgs s_touch, defBody s_touch, defScope s_touch⟩
def fd2 : He.FnD := ⟨("grown_from", none), "grown_from", "grown_from", defArgs s_grown_from, defBody s_grown_from, defScope s_grown_from⟩
def fd3 : He.FnD := ⟨("hull", none), "hull", "hull", defArgs s_hull, defBody s_hull, defScope s_hull⟩
def fd4 : He.FnD := ⟨("hull_of", none), "hull_of", "hull_of", defArgs s_hull_of, defBody s_hull_of, defScope s_hull_of⟩
def fd5 : He.FnD := ⟨("islands", none), "islands", "islands", defArgs s_islands, defBody s_islands, defScope s_islands⟩
def fd6 : He.FnD := ⟨("_law_mix", none), "_law_mix", "_law_mix", defArgs s__law_mix, defBody s__law_mix, defScope s__law_mix⟩
def fd7 : He.FnD := ⟨("_law_box", none), "_law_box", "_law_box", defArgs s__law_box, defBody s__law_box, defScope s__law_box⟩
def fd8 : He.FnD := ⟨("_law_whole", none), "_law_whole", "_law_whole", defArgs s__law_whole, defBody s__law_whole, defScope s__law_whole⟩
def fd9 : He.FnD := ⟨("_law_alike", none), "_law_alike", "_law_alike", defArgs s__law_alike, defBody s__law_alike, defScope s__law_alike⟩
def fd10 : He.FnD := ⟨("_law_cell_at", none), "_law_cell_at", "_law_cell_at", defArgs s__law_cell_at, defBody s__law_cell_at, defScope s__law_cell_at⟩
def fd11 : He.FnD := ⟨("_law_far", none), "_law_far", "_law_far", defArgs s__law_far, defBody s__law_far, defScope s__law_far⟩
def fd12 : He.FnD := ⟨("_law_touch", none), "_law_touch", "_law_touch", defArgs s__law_touch, defBody s__law_touch, defScope s__law_touch⟩
def fd13 : He.FnD := ⟨("_law_marks", none), "_law_marks", "_law_marks", defArgs s__law_marks, defBody s__law_marks, defScope s__law_marks⟩
def fd14 : He.FnD := ⟨("_law_due", none), "_law_due", "_law_due", defArgs s__law_due, defBody s__law_due, defScope s__law_due⟩
def fd15 : He.FnD := ⟨("law", none), "law", "law", defArgs s_law, defBody s_law, defScope s_law⟩
def hfn0 : List He.FnD := [fd0, fd1, fd2, fd3, fd4, fd5, fd6, fd7, fd8, fd9, fd10, fd11, fd12, fd13, fd14, fd15]
def hfn : List He.FnD := hfn0
def hfa0 : List He.Fa := [.glo "common", .keep "common", .glo "touch", .keep "touch", .glo "grown_from", .keep "grown_from", .glo "hull", .keep "hull", .glo "hull_of", .keep "hull_of", .glo "islands", .keep "islands", .glo "_law_mix", .keep "_law_mix", .glo "_law_box", .keep "_law_box", .glo "_law_whole", .keep "_law_whole", .glo "_law_alike", .keep "_law_alike", .glo "_law_cell_at", .keep "_law_cell_at", .glo "_law_far", .keep "_law_far", .glo "_law_touch", .keep "_law_touch", .glo "_law_marks", .keep "_law_marks", .glo "_law_due", .keep "_law_due"]
def hfa1 : List He.Fa := [.glo "law", .keep "law", .free "all", .free "bool", .free "enumerate", .free "int", .free "isinstance", .free "len", .free "list", .free "max", .free "min", .free "range", .free "sorted", .free "str", .free "tuple"]
def hfa : List He.Fa := hfa0 ++ hfa1
def hex (K : PySem.W.Frag) : Bool := true
def hnames0 : List Str := ["common", "hull", "touch", "grown_from", "hull_of", "islands", "_law_cell_at", "_law_mix", "_law_whole", "_law_alike", "_law_box", "_law_touch", "_law_marks", "_law_due", "_law_far"]
def hnames : List Str := hnames0
abbrev hk : PySem.W.Hook := hkB hfa hfn hex
def hob (s : PySem.W.SharedT) : He.Al × Bool := fragC (HandSHeadRun.getT s) (obB hfa hfn hex)
theorem hob_eq (s : PySem.W.SharedT) : hob s = hk.obs s.abs := (fragC_eq _ _).trans (obBG_eq (HandSHeadRun.getT_eq s))
set_option maxHeartbeats 0 in
theorem hrun (w : World) : HandSHeadRun.RunEq (PySem.W.OpenLaw.row PySem.Challenge.rw_boxnarrow_k72_islands) (PySem.W.view (PySem.W.OpenLaw.row PySem.Challenge.rw_boxnarrow_k72_islands).prog [18]) hk hob 14000 hnames w := by
  intro os
  kernel_rfl
end Lw

namespace Lw
open Bn
local macro_rules
  | `(tactic| simp_arith only [$ls,*]) => `(tactic| simp (disch := decide) only [x_seq, x_seq1, x_seq2, x_seq3, x_seq4, x_seq5, x_seq6, x_nil, x_if, x_if1, x_if2, x_if3, x_ret, x_ret1, x_ret2, x_ret3, x_retN, x_asg, x_asg1, x_asg2, x_asg3, x_asg4, x_asg5, x_gN, x_drop, x_drop1, x_drop2, x_bk, x_ct, x_raise, x_tZ, x_tZ1, x_tZ2, x_tE, x_tE1, x_tE2, x_tE3, x_tAnd, x_tAnd1, x_tAnd2, x_tAnd3, x_tOr, x_tOr1, x_tOr2, x_tOr3, x_tNot, x_tNot1, x_tNot2, x_tNot3, x_tTrue, x_z2, x_z21, x_z1, x_z11, x_zC, x_zC1, x_za, x_za1, x_za0, x_zV, x_zK, x_ch, x_ch1, x_ch2, x_eZ, x_eZ1, x_eZ2, x_eV, x_eV1, x_eM, x_eM1, x_b1, x_b2, x_b3, x_s1, x_s2, x_s3, x_oO, x_oO2, x_e2, x_e1, x_eC, x_aN, x_aC, x_tup, x_lst, x_call, x_oC1, x_oC2, x_call0, x_call01, x_eAnd, x_eAnd1, x_eOr, x_eOr1, x_eNot, x_eNot1, x_eIf, x_eIf1, x_fz_int, x_fr_int, x_fz_bl, x_fr_bl, x_fz_str, x_fr_str, x_fz_ty, x_fr_ty, x_fz_tup, x_fr_tup, x_fz_cst, x_fr_cst, x_fz_lst_false, x_fr_lst_false, x_fz_non, x_fr_non, x_fz_lt, x_fr_lt, x_fL0, x_fL1, x_cF, x_cR1, x_cR2, x_cR3, x_iL, x_iL1, x_iT, x_iT1, x_iS, x_iS1, x_iR1, x_iR11, x_iR2, x_iR21, x_iE, x_iE1, x_iV, x_iV1, x_iZ, x_iZ1, x_for, x_fo0, x_fo1, x_fo2, x_fo3, x_fo4, x_fo5, x_fo6, x_fo7, x_gT, x_gC, x_gC0, x_try, x_try1, x_try2, x_try3, x_try4, x_try5, x_nx1, x_nx2, x_try6, x_try7, x_nx3, x_nx4, x_app, x_app1, x_app2, x_lc, x_lcE, x_lc0, x_lc1, x_lcG, x_w0, x_w1, vMinL4, vMaxL4, vAll3, vAny3, vAll4, vAny4, x_wh1, x_wh2, x_wh0, x_abs, vI_ii, vI_ib, vI_it, vI_il, vI_is, vI_bb, vI_bi, vI_tt, vI_tl, vI_ti, vI_ll, vI_lt, vI_ss, vEqB, vNeB, x_ta, x_ta1, x_ta2, x_ta3, x_ta4, x_ta5, x_is, nc_0, nc_1, nc_2, nc_3, nc_4, nc_5, nc_6, nc_7, nc_8, nc_9, nc_10, nc_11, vMax2, vMin2, vIsN0, vIsN1, vNotN0, vNotN1, vIsN2, vNotN2, x_lo, x_lo1, x_lo2, vAll2, vAny2, x_sl, x_sl1, x_sl2, x_pn, x_ps, x_ps1, x_cutL, x_cutC, vEqS, vNeS, x_fz_obj, x_fr_obj, x_make, x_meth, x_meth2, x_meth3, x_isO, x_isO1, x_cat, x_cat1, x_methZ, x_methZ2, x_methZ3, x_callZ, x_callZ1, x_lend1, x_lend2, x_cl_int, x_cl_bl, x_cl_str, x_cl_non, x_cl_tup, x_cl0, x_cl1, x_cl_lst, x_setIx, x_setIx1, x_setIx2, x_callI, x_callI1, x_callI2, x_callI3, x_take0, x_take1, x_take2, x_put0, x_put1, x_cFI, x_cRI1, x_cRI2, x_outR, x_outR1, x_out1, x_out2, x_par, x_par1, x_sort, x_sort1, x_sort2, x_io2, x_io4, vIsB, x_pop, x_lr, x_lr1, x_clr, x_clr1, x_clrE, x_clrE1, x_pop1, x_pop2, x_ins, x_ins1, x_ins2, x_sk, x_sk1, x_sk2, x_sk3, x_ck, x_ck1, x_lk, x_lk1, x_iK, x_iK1, x_forB, x_fbD, x_fbR, x_fbR2, x_fzE, vInt1, vInt2, x_tupO, x_tupO1, x_tupO2, x_e2Z, x_e2Z1, x_appF, x_appF1, x_appF2, x_appF3, x_setF, x_setF1, x_setF2, x_setF3, x_setFd, x_setFd1, x_makeI, x_makeI1, x_methI, x_methI1, x_methI2, x_mz0, x_mz01, x_mz02, x_mz03, x_m0, x_m01, x_m02, x_m03, x_fz_objt, x_fr_objt, List.all_cons, List.all_nil, Option.isSome_some, Option.map_some, List.getD_cons_zero, List.getD_cons_succ, List.set_cons_zero, List.set_cons_succ, List.map_cons, List.map_nil, List.replicate_zero, List.replicate_succ, List.length_cons, List.length_nil, List.cons_append, List.nil_append, Option.bind_some, if_true, if_false, Bool.false_eq_true, Nat.reduceSub, Nat.reduceAdd, Nat.reduceLeDiff, Nat.reduceLT, vAdd, vSub, vLt, vLe, vGt, vGe, vNeg, vEq, vNe, vEq2, vNe2, vMod, vDiv, vMul, vPow, Int.reduceToNat, vIx0, vIx1, vLenT, vLenC, vLenL, reduceIte, decide_true, decide_false, Bool.not_true, Bool.not_false, beq_self_eq_true, Bool.and_true, Bool.true_and, Bool.and_self, Bool.and_false, Bool.false_and, $ls,*])
local macro_rules
  | `(tactic| simp_arith [$ls,*]) => `(tactic| simp only [x_seq, x_seq1, x_seq2, x_seq3, x_seq4, x_seq5, x_seq6, x_nil, x_if, x_if1, x_if2, x_if3, x_ret, x_ret1, x_ret2, x_ret3, x_retN, x_asg, x_asg1, x_asg2, x_asg3, x_asg4, x_asg5, x_gN, x_drop, x_drop1, x_drop2, x_bk, x_ct, x_raise, x_tZ, x_tZ1, x_tZ2, x_tE, x_tE1, x_tE2, x_tE3, x_tAnd, x_tAnd1, x_tAnd2, x_tAnd3, x_tOr, x_tOr1, x_tOr2, x_tOr3, x_tNot, x_tNot1, x_tNot2, x_tNot3, x_tTrue, x_z2, x_z21, x_z1, x_z11, x_zC, x_zC1, x_za, x_za1, x_za0, x_zV, x_zK, x_ch, x_ch1, x_ch2, x_eZ, x_eZ1, x_eZ2, x_eV, x_eV1, x_eM, x_eM1, x_b1, x_b2, x_b3, x_s1, x_s2, x_s3, x_oO, x_oO2, x_e2, x_e1, x_eC, x_aN, x_aC, x_tup, x_lst, x_call, x_oC1, x_oC2, x_call0, x_call01, x_eAnd, x_eAnd1, x_eOr, x_eOr1, x_eNot, x_eNot1, x_eIf, x_eIf1, x_fz_int, x_fr_int, x_fz_bl, x_fr_bl, x_fz_str, x_fr_str, x_fz_ty, x_fr_ty, x_fz_tup, x_fr_tup, x_fz_cst, x_fr_cst, x_fz_lst_false, x_fr_lst_false, x_fz_non, x_fr_non, x_fz_lt, x_fr_lt, x_fL0, x_fL1, x_cF, x_cR1, x_cR2, x_cR3, x_iL, x_iL1, x_iT, x_iT1, x_iS, x_iS1, x_iR1, x_iR11, x_iR2, x_iR21, x_iE, x_iE1, x_iV, x_iV1, x_iZ, x_iZ1, x_for, x_fo0, x_fo1, x_fo2, x_fo3, x_fo4, x_fo5, x_fo6, x_fo7, x_gT, x_gC, x_gC0, x_try, x_try1, x_try2, x_try3, x_try4, x_try5, x_nx1, x_nx2, x_try6, x_try7, x_nx3, x_nx4, x_app, x_app1, x_app2, x_lc, x_lcE, x_lc0, x_lc1, x_lcG, x_w0, x_w1, vMinL4, vMaxL4, vAll3, vAny3, vAll4, vAny4, x_wh1, x_wh2, x_wh0, x_abs, vI_ii, vI_ib, vI_it, vI_il, vI_is, vI_bb, vI_bi, vI_tt, vI_tl, vI_ti, vI_ll, vI_lt, vI_ss, vEqB, vNeB, x_ta, x_ta1, x_ta2, x_ta3, x_ta4, x_ta5, x_is, nc_0, nc_1, nc_2, nc_3, nc_4, nc_5, nc_6, nc_7, nc_8, nc_9, nc_10, nc_11, vMax2, vMin2, vIsN0, vIsN1, vNotN0, vNotN1, vIsN2, vNotN2, x_lo, x_lo1, x_lo2, vAll2, vAny2, x_sl, x_sl1, x_sl2, x_pn, x_ps, x_ps1, x_cutL, x_cutC, vEqS, vNeS, x_fz_obj, x_fr_obj, x_make, x_meth, x_meth2, x_meth3, x_isO, x_isO1, x_cat, x_cat1, x_methZ, x_methZ2, x_methZ3, x_callZ, x_callZ1, x_lend1, x_lend2, x_cl_int, x_cl_bl, x_cl_str, x_cl_non, x_cl_tup, x_cl0, x_cl1, x_cl_lst, x_setIx, x_setIx1, x_setIx2, x_callI, x_callI1, x_callI2, x_callI3, x_take0, x_take1, x_take2, x_put0, x_put1, x_cFI, x_cRI1, x_cRI2, x_outR, x_outR1, x_out1, x_out2, x_par, x_par1, x_sort, x_sort1, x_sort2, x_io2, x_io4, vIsB, x_pop, x_lr, x_lr1, x_clr, x_clr1, x_clrE, x_clrE1, x_pop1, x_pop2, x_ins, x_ins1, x_ins2, x_sk, x_sk1, x_sk2, x_sk3, x_ck, x_ck1, x_lk, x_lk1, x_iK, x_iK1, x_forB, x_fbD, x_fbR, x_fbR2, x_fzE, vInt1, vInt2, x_tupO, x_tupO1, x_tupO2, x_e2Z, x_e2Z1, x_appF, x_appF1, x_appF2, x_appF3, x_setF, x_setF1, x_setF2, x_setF3, x_setFd, x_setFd1, x_makeI, x_makeI1, x_methI, x_methI1, x_methI2, x_mz0, x_mz01, x_mz02, x_mz03, x_m0, x_m01, x_m02, x_m03, x_fz_objt, x_fr_objt, List.all_cons, List.all_nil, Option.isSome_some, Option.map_some, List.getD_cons_zero, List.getD_cons_succ, List.set_cons_zero, List.set_cons_succ, List.map_cons, List.map_nil, List.replicate_zero, List.replicate_succ, List.length_cons, List.length_nil, List.cons_append, List.nil_append, Option.bind_some, if_true, if_false, Bool.false_eq_true, Nat.reduceSub, Nat.reduceAdd, Nat.reduceLeDiff, Nat.reduceLT, vAdd, vSub, vLt, vLe, vGt, vGe, vNeg, vEq, vNe, vEq2, vNe2, vMod, vDiv, vMul, vPow, Int.reduceToNat, vIx0, vIx1, vLenT, vLenC, vLenL, reduceIte, decide_true, decide_false, Bool.not_true, Bool.not_false, beq_self_eq_true, Bool.and_true, Bool.true_and, Bool.and_self, Bool.and_false, Bool.false_and, $ls,*])
/-! ### paths -/
section
variable {n : Nat} {T : Nat → Nat → Bool}
inductive Conn (n : Nat) (T : Nat → Nat → Bool) : Nat → Nat → Prop
  | refl (i : Nat) : Conn n T i i
  | step {i j k : Nat} : Conn n T i j → j < n → k < n → T j k = true → Conn n T i k
theorem Conn.trans {i j k : Nat} (h : Conn n T i j) (q : Conn n T j k) : Conn n T i k := by
  induction q with
  | refl => exact h
  | step _ hj hk ht ih => exact (ih).step hj hk ht
theorem Conn.symm (hs : ∀ i j, i < n → j < n → T i j = true → T j i = true) {i j : Nat} (h : Conn n T i j) : Conn n T j i := by
  induction h with
  | refl => exact .refl _
  | step _ hj hk ht ih => exact ((Conn.refl _).step hk hj (hs _ _ hj hk ht)).trans ih
theorem Conn.lt {i j : Nat} (h : Conn n T i j) (hi : i < n) : j < n := by
  induction h with
  | refl => exact hi
  | step _ _ hk _ _ => exact hk
/-- what is closed under T and holds i holds all that i reaches -/
theorem Conn.closed {i j : Nat} {P : Nat → Prop} (h : Conn n T i j) (hi : P i) (hc : ∀ a b, P a → a < n → b < n → T a b = true → P b) : P j := by
  induction h with
  | refl => exact hi
  | step _ hj hk ht ih => exact hc _ _ ih hj hk ht
/-! ### a set grown from one -/
def scanS (T : Nat → Nat → Bool) (x : Nat) (N : List Nat) (k : Nat) : List Nat := if !N.contains k && T x k then N ++ [k] else N
def scanW (n : Nat) (T : Nat → Nat → Bool) (x : Nat) (N : List Nat) : List Nat := (List.range n).foldl (scanS T x) N
structure Grown (n : Nat) (T : Nat → Nat → Bool) (f : Nat) (N : List Nat) : Prop where
  nd : N.Nodup
  lt : ∀ k ∈ N, k < n
  m : f ∈ N
  c : ∀ k ∈ N, Conn n T f k
theorem Grown.scan {f x : Nat} {N : List Nat} (h : Grown n T f N) (hx : x ∈ N) {k : Nat} (hk : k < n) : Grown n T f (scanS T x N k) ∧ (∃ A, scanS T x N k = N ++ A) ∧ (T x k = true → k ∈ scanS T x N k) := by
  unfold scanS
  cases hc : N.contains k with
  | true =>
    rw [if_neg (by simp)]
    exact ⟨h, ⟨[], by rw [List.append_nil]⟩, fun _ => List.contains_iff_mem.mp hc⟩
  | false =>
    have hm : k ∉ N := fun q => by rw [List.contains_iff_mem.mpr q] at hc; cases hc
    cases ht : T x k with
    | false =>
      rw [if_neg (by simp)]
      exact ⟨h, ⟨[], by rw [List.append_nil]⟩, fun q => by cases q⟩
    | true =>
      rw [if_pos (by simp)]
      refine ⟨⟨?_, fun j hj => ?_, List.mem_append_left _ h.m, fun j hj => ?_⟩, ⟨[k], rfl⟩, fun _ => by simp⟩
      · rw [List.nodup_append]
        exact ⟨h.nd, by simp, fun a ha b hb => by cases List.mem_singleton.mp hb; exact fun e => hm (e ▸ ha)⟩
      · rcases List.mem_append.mp hj with q | q
        · exact h.lt j q
        · cases List.mem_singleton.mp q; exact hk
      · rcases List.mem_append.mp hj with q | q
        · exact h.c j q
        · cases List.mem_singleton.mp q
          exact (h.c x hx).step (h.lt x hx) hk ht
theorem Grown.scans {f x : Nat} : ∀ (ks : List Nat) {N : List Nat}, Grown n T f N → x ∈ N → (∀ k ∈ ks, k < n) → Grown n T f (ks.foldl (scanS T x) N) ∧ (∃ A, ks.foldl (scanS T x) N = N ++ A) ∧ ∀ k ∈ ks, T x k = true → k ∈ ks.foldl (scanS T x) N
  | [], N, h, hx, _ => ⟨h, ⟨[], by rw [List.append_nil]; rfl⟩, fun k hk => by cases hk⟩
  | k :: ks, N, h, hx, hl => by
    obtain ⟨h1, ⟨A, hA⟩, h3⟩ := h.scan hx (hl k List.mem_cons_self)
    obtain ⟨g1, ⟨C, hC⟩, g3⟩ := Grown.scans ks h1 (by rw [hA]; exact List.mem_append_left _ hx) fun k' h' => hl k' (List.mem_cons_of_mem _ h')
    rw [List.foldl_cons]
    refine ⟨g1, ⟨A ++ C, by rw [hC, hA, List.append_assoc]⟩, fun j hj ht => ?_⟩
    rcases List.mem_cons.mp hj with rfl | hj
    · rw [hC]; exact List.mem_append_left _ (h3 ht)
    · exact g3 j hj ht
theorem nodup_len : ∀ (n : Nat) (N : List Nat), N.Nodup → (∀ k ∈ N, k < n) → N.length ≤ n
  | 0, N, _, h => by
    cases N with
    | nil => exact Nat.le_refl _
    | cons k N => exact absurd (h k List.mem_cons_self) (by omega)
  | n + 1, N, nd, h => by
    by_cases c : n ∈ N
    · have ih := nodup_len n (N.erase n) (nd.erase n) fun k hk => by
        have := (nd.mem_erase_iff).mp hk
        have := h k this.2
        omega
      rw [List.length_erase_of_mem c] at ih
      omega
    · have ih := nodup_len n N nd fun k hk => by
        have := h k hk
        have : k ≠ n := fun e => c (e ▸ hk)
        omega
      omega
theorem Grown.len {f : Nat} {N : List Nat} (h : Grown n T f N) : N.length ≤ n := nodup_len n N h.nd h.lt
/-- the walk over what is found so far -/
def grow (n : Nat) (T : Nat → Nat → Bool) : Nat → Nat → List Nat → List Nat
  | 0, _, N => N
  | fuel + 1, a, N => if a < N.length then grow n T fuel (a + 1) (scanW n T (N.getD a 0) N) else N
theorem grow_ok {f : Nat} : ∀ (fuel a : Nat) (N : List Nat), Grown n T f N → n < fuel + a → (∀ i x, i < a → N[i]? = some x → ∀ k, k < n → T x k = true → k ∈ N) → Grown n T f (grow n T fuel a N) ∧ ∀ x ∈ grow n T fuel a N, ∀ k, k < n → T x k = true → k ∈ grow n T fuel a N
  | 0, a, N, h, hf, hc => by
    have hl := h.len
    refine ⟨h, fun x hx k hk ht => ?_⟩
    have hx : x ∈ N := hx
    obtain ⟨i, hi⟩ := List.getElem?_of_mem hx
    have := (List.getElem?_eq_some_iff.mp hi).1
    exact hc i x (by omega) hi k hk ht
  | fuel + 1, a, N, h, hf, hc => by
    unfold grow
    by_cases ha : a < N.length
    · rw [if_pos ha]
      have hg : N.getD a 0 = N[a] := by rw [List.getD_eq_getElem?_getD, List.getElem?_eq_getElem ha]; rfl
      have hx : N.getD a 0 ∈ N := by rw [hg]; exact List.getElem_mem ha
      obtain ⟨g1, ⟨A, hA⟩, g3⟩ := Grown.scans (List.range n) h hx fun k hk => List.mem_range.mp hk
      have e : scanW n T (N.getD a 0) N = N ++ A := hA
      refine grow_ok fuel (a + 1) _ g1 (by omega) fun i x hi hl k hk ht => ?_
      have hl2 : N[i]? = some x := by
        have hl : (scanW n T (N.getD a 0) N)[i]? = some x := hl
        rw [e, List.getElem?_append_left (by omega)] at hl
        exact hl
      clear hl
      by_cases q : i = a
      · subst q
        rw [List.getElem?_eq_getElem ha] at hl2
        rw [← Option.some.inj hl2, ← hg] at ht
        exact g3 k (List.mem_range.mpr hk) ht
      · show k ∈ scanW n T (N.getD a 0) N
        rw [e]
        exact List.mem_append_left _ (hc i x (by omega) hl2 k hk ht)
    · rw [if_neg ha]
      refine ⟨h, fun x hx k hk ht => ?_⟩
      obtain ⟨i, hi⟩ := List.getElem?_of_mem hx
      have := (List.getElem?_eq_some_iff.mp hi).1
      exact hc i x (by omega) hi k hk ht
theorem grown_one {f : Nat} (hf : f < n) : Grown n T f [f] := ⟨by simp, fun k hk => by cases List.mem_singleton.mp hk; exact hf, by simp, fun k hk => by cases List.mem_singleton.mp hk; exact .refl _⟩
theorem grow_mem {f : Nat} (hf : f < n) (k : Nat) : k ∈ grow n T (n + 1) 0 [f] ↔ Conn n T f k := by
  obtain ⟨h1, h2⟩ := grow_ok (n + 1) 0 [f] (grown_one (T := T) hf) (by omega) fun i x hi => by omega
  exact ⟨h1.c k, fun q => q.closed h1.m fun a b ha _ hb ht => h2 a ha b hb ht⟩
/-! ### marks -/
structure Lab (n : Nat) (T : Nat → Nat → Bool) (a : Nat) (M : Nat → Nat) : Prop where
  le : ∀ k, k < a → M k ≤ k ∧ M (M k) = M k
  t : ∀ i j, i < a → j < a → T i j = true → M i = M j
  c : ∀ k, k < a → Conn n T (M k) k
def mineW (T : Nat → Nat → Bool) (M : Nat → Nat) (a : Nat) : List Nat := ((List.range a).filter fun k => T k a).map M ++ [a]
def leastW : List Nat → Nat
  | [] => 0
  | [x] => x
  | x :: y :: r => min x (leastW (y :: r))
theorem leastW_le : ∀ {l : List Nat} {x : Nat}, x ∈ l → leastW l ≤ x
  | [x], y, h => by cases List.mem_singleton.mp h; exact Nat.le_refl _
  | x :: y :: r, z, h => by
    show min x (leastW (y :: r)) ≤ z
    rcases List.mem_cons.mp h with rfl | h
    · exact Nat.min_le_left _ _
    · exact Nat.le_trans (Nat.min_le_right _ _) (leastW_le h)
theorem leastW_mem : ∀ {l : List Nat}, l ≠ [] → leastW l ∈ l
  | [x], _ => List.mem_singleton.mpr rfl
  | x :: y :: r, _ => by
    show min x (leastW (y :: r)) ∈ _
    have h := leastW_mem (l := y :: r) (by simp)
    by_cases c : x ≤ leastW (y :: r)
    · rw [Nat.min_eq_left c]; exact List.mem_cons_self
    · rw [Nat.min_eq_right (by omega)]; exact List.mem_cons_of_mem _ h
def nextM (T : Nat → Nat → Bool) (M : Nat → Nat) (a k : Nat) : Nat := if k = a then leastW (mineW T M a) else if (mineW T M a).contains (M k) then leastW (mineW T M a) else M k
theorem Lab.next {a : Nat} {M : Nat → Nat} (h : Lab n T a M) (ha : a < n) (hs : ∀ i j, i < n → j < n → T i j = true → T j i = true) : Lab n T (a + 1) (nextM T M a) := by
  obtain ⟨mine, hm⟩ : ∃ l, mineW T M a = l := ⟨_, rfl⟩
  have hne : mine ≠ [] := by rw [← hm]; unfold mineW; simp
  obtain ⟨l, hl⟩ : ∃ l, leastW mine = l := ⟨_, rfl⟩
  have lm : l ∈ mine := by rw [← hl]; exact leastW_mem hne
  have ll : ∀ x ∈ mine, l ≤ x := fun x hx => by rw [← hl]; exact leastW_le hx
  have am : a ∈ mine := by rw [← hm]; unfold mineW; simp
  have inm : ∀ x, x ∈ mine ↔ (∃ k, k < a ∧ T k a = true ∧ M k = x) ∨ x = a := fun x => by
    rw [← hm]; unfold mineW
    simp only [List.mem_append, List.mem_map, List.mem_filter, List.mem_range, List.mem_singleton]
    constructor
    · rintro (⟨k, ⟨h1, h2⟩, h3⟩ | h)
      · exact .inl ⟨k, h1, h2, h3⟩
      · exact .inr h
    · rintro (⟨k, h1, h2, h3⟩ | h)
      · exact .inl ⟨k, ⟨h1, h2⟩, h3⟩
      · exact .inr h
  have N : ∀ k, nextM T M a k = if k = a then l else if mine.contains (M k) then l else M k := fun k => by unfold nextM; rw [hm, hl]
  have Na : nextM T M a a = l := by rw [N, if_pos rfl]
  have Nin : ∀ k, k < a → M k ∈ mine → nextM T M a k = l := fun k hk q => by rw [N, if_neg (by omega), if_pos (List.contains_iff_mem.mpr q)]
  have Nout : ∀ k, k < a → M k ∉ mine → nextM T M a k = M k := fun k hk q => by
    rw [N, if_neg (by omega), if_neg (fun z => q (List.contains_iff_mem.mp z))]
  have la : l ≤ a := ll a am
  have Nl : nextM T M a l = l := by
    by_cases q : l = a
    · rw [q]; rw [← q]; rw [q]; rw [Na]; exact q
    · have hlt : l < a := by omega
      rcases (inm l).mp lm with ⟨k, k1, k2, k3⟩ | z
      · have : M l = l := by rw [← k3]; exact (h.le k k1).2
        exact Nin l hlt (by rw [this]; exact lm)
      · exact absurd z q
  -- what touches a reaches a
  have toA : ∀ x ∈ mine, Conn n T x a := fun x hx => by
    rcases (inm x).mp hx with ⟨k, k1, k2, k3⟩ | rfl
    · have := h.c k k1
      rw [k3] at this
      exact this.step (by omega) ha k2
    · exact .refl _
  refine ⟨fun k hk => ?_, fun i j hi hj ht => ?_, fun k hk => ?_⟩
  · by_cases q : k = a
    · subst q
      rw [Na]
      exact ⟨la, Nl⟩
    · have hk : k < a := by omega
      by_cases z : M k ∈ mine
      · rw [Nin k hk z]
        exact ⟨Nat.le_trans (ll _ z) (h.le k hk).1, Nl⟩
      · rw [Nout k hk z]
        have lt : M k < a := by have := (h.le k hk).1; omega
        refine ⟨(h.le k hk).1, ?_⟩
        have e : M (M k) = M k := (h.le k hk).2
        rw [Nout (M k) lt (by rw [e]; exact z), e]
  · have key : ∀ i, i < a → T i a = true → nextM T M a i = l := fun i hi ht => Nin i hi ((inm _).mpr (.inl ⟨i, hi, ht, rfl⟩))
    by_cases q : i = a
    · by_cases z : j = a
      · rw [q, z]
      · rw [q, Na, key j (by omega) (by rw [q] at ht; exact hs _ _ (by omega) (by omega) ht)]
    · by_cases z : j = a
      · rw [z, Na, key i (by omega) (by rw [z] at ht; exact ht)]
      · have e := h.t i j (by omega) (by omega) ht
        by_cases y : M i ∈ mine
        · rw [Nin i (by omega) y, Nin j (by omega) (by rw [← e]; exact y)]
        · rw [Nout i (by omega) y, Nout j (by omega) (by rw [← e]; exact y), e]
  · by_cases q : k = a
    · subst q
      rw [Na]
      exact toA l lm
    · have hk : k < a := by omega
      by_cases z : M k ∈ mine
      · rw [Nin k hk z]
        exact ((toA l lm).trans ((toA _ z).symm hs)).trans (h.c k hk)
      · rw [Nout k hk z]
        exact h.c k hk
def marksF (T : Nat → Nat → Bool) : Nat → Nat → Nat
  | 0 => fun _ => 0
  | a + 1 => nextM T (marksF T a) a
theorem marks_ok (hs : ∀ i j, i < n → j < n → T i j = true → T j i = true) : ∀ a, a ≤ n → Lab n T a (marksF T a)
  | 0, _ => ⟨fun k hk => by omega, fun i j hi => by omega, fun k hk => by omega⟩
  | a + 1, h => (marks_ok hs a (by omega)).next (by omega) hs
theorem Lab.conn {M : Nat → Nat} (h : Lab n T n M) (hs : ∀ i j, i < n → j < n → T i j = true → T j i = true) {i j : Nat} (hi : i < n) (hj : j < n) : Conn n T i j ↔ M i = M j := by
  constructor
  · intro q
    have key : M j = M i := q.closed (P := fun x => M x = M i) rfl fun a b ha la lb ht => by rw [← ha]; exact (h.t a b la lb ht).symm
    exact key.symm
  · intro q
    exact ((h.c i hi).symm hs).trans (q ▸ h.c j hj)
/-- who is marked by itself is the least of its own -/
theorem Lab.least {M : Nat → Nat} (h : Lab n T n M) (hs : ∀ i j, i < n → j < n → T i j = true → T j i = true) {i : Nat} (hi : i < n) : M i = i ↔ ∀ j, j < i → ¬ Conn n T j i := by
  constructor
  · intro q j hj c
    have := (h.conn hs (by omega) hi).mp c
    have := (h.le j (by omega)).1
    omega
  · intro q
    have l := (h.le i hi).1
    by_cases e : M i = i
    · exact e
    · exact absurd (h.c i hi) (q _ (by omega))
end

def spD (p : Int × Int) : D := .tup [.int p.1, .int p.2]
theorem fz_sp (l : List (Int × Int)) : freezeL (l.map spD) = l.map spD := fz_map (fun _ => rfl) l
def bF (b : List (Int × Int)) : D := .lst false (b.map spD)
def bO (b : List (Int × Int)) : D := .lst true (b.map spD)
def ptN (l : List (Int × Int)) (k : Nat) : Int × Int := l.getD k (0, 0)
theorem ix_sp {l : List (Int × Int)} {k : Nat} (h : k < l.length) (m : Bool) : gIx (.lst m (l.map spD)) (.int (k : Int)) = some (.tup [.int (ptN l k).1, .int (ptN l k).2]) := vIxL_of (k := k) rfl (by
  unfold ptN
  rw [List.getElem?_map, List.getD_eq_getElem?_getD, List.getElem?_eq_getElem h]; rfl)
theorem len_sp (l : List (Int × Int)) (m : Bool) : gLen [.lst m (l.map spD)] = some (.int (l.length : Int)) := by rw [vLenL, List.length_map]
theorem lc_pickx {α : Type} {own : List Nat} {g : D → Bn.Env → Option Bn.Env} {t : MT} {m : ME} (τ : Bn.Env) (f : α → D) (p : α → Bool) (h : α → D) : ∀ (items : List α) (acc : List D), acc.length + items.length ≤ 1000000 → (∀ k ∈ items, ∃ τ1 τ2, g (f k) τ = some τ1 ∧ t τ1 = .ok (p k) τ2 ∧ wipeE τ2 own = τ ∧ (p k = true → ∃ τ3, m τ2 = .ok (h k) τ3 ∧ wipeE τ3 own = τ)) → lcL own g t m (items.map f) acc τ = .ok (acc ++ (items.filter p).map h) τ
  | [], acc, _, _ => by rw [List.map_nil, x_lc0, List.filter_nil, List.map_nil, List.append_nil]
  | k :: ks, acc, hl, hh => by
    obtain ⟨τ1, τ2, e1, e2, e3, e4⟩ := hh k List.mem_cons_self
    rw [List.length_cons] at hl
    rw [List.map_cons, x_lc1, e1, x_lcG, e2, x_b1]
    cases hp : p k with
    | true =>
      obtain ⟨τ3, e5, e6⟩ := e4 hp
      rw [if_pos rfl, e5, x_b1, if_pos (by omega), e6, lc_pickx τ f p h ks (acc ++ [h k]) (by rw [List.length_append, List.length_cons, List.length_nil]; omega) fun k' hk => hh k' (List.mem_cons_of_mem _ hk), List.filter_cons_of_pos hp, List.map_cons, List.append_assoc]
      rfl
    | false =>
      rw [if_neg (by simp), e3, lc_pickx τ f p h ks acc (by omega) fun k' hk => hh k' (List.mem_cons_of_mem _ hk), List.filter_cons_of_neg (by simp [hp])]
def mrow (n : Nat) (r : Nat → Int) : List D := (List.range n).map fun k => D.int (r k)
def matF (b : Bool) (n : Nat) (A : Nat → Nat → Int) : D := .lst b ((List.range n).map fun a => .lst b (mrow n (A a)))

theorem cell_ok (ns : List Int) {j : Int} (h : 0 ≤ j) : ∃ c : Int, f__law_cell_at [.cst (ns.map D.int), .int j] = .ok (.int c) := by
  have l0 : gLen [.cst (ns.map D.int)] = some (.int (ns.length : Int)) := by rw [vLenC, List.length_map]
  by_cases c : j < (ns.length : Int)
  · have h1 : decide (j < (ns.length : Int)) = true := decide_eq_true c
    have i0 : gIx (.cst (ns.map D.int)) (.int j) = some (.int (ns.getD j.toNat 0)) := by
      have := vIxC (ns.map D.int) j.toNat
      rw [show ((j.toNat : Nat) : Int) = j by omega] at this
      rw [this, List.getElem?_map, List.getD_eq_getElem?_getD, List.getElem?_eq_getElem (by omega)]; rfl
    refine ⟨ns.getD j.toNat 0, ?_⟩
    generalize ns.getD j.toNat 0 = q at *
    generalize (ns.length : Int) = n at *
    generalize ns.map D.int = C at *
    simp_arith only [f__law_cell_at, m__law_cell_at, l0, h1, i0]
  · have h1 : decide (j < (ns.length : Int)) = false := decide_eq_false c
    refine ⟨0, ?_⟩
    generalize (ns.length : Int) = n at *
    generalize ns.map D.int = C at *
    simp_arith only [f__law_cell_at, m__law_cell_at, l0, h1]
theorem mix_ok (c k : Int) (h0 : 0 ≤ k) (h1 : k ≤ 100) : ∃ v : Int, f__law_mix [.int c, .int k] = .ok (.int v) ∧ 0 ≤ v ∧ v < 2147483647 := by
  have w1 : L2.CMul 2 k := .inl ⟨by decide, by decide⟩
  have w2 : L2.CMul c (2 * k + 3) := .inr ⟨by omega, by omega⟩
  have w3 : L2.CMul (c * (2 * k + 3)) 48271 := .inr ⟨by decide, by decide⟩
  have w4 : L2.CMul k k := .inl ⟨by omega, by omega⟩
  have w5 : L2.CMul (k * k) 7919 := .inr ⟨by decide, by decide⟩
  refine ⟨(c * (2 * k + 3) * 48271 + k * k * 7919) % 2147483647, ?_, by omega, by omega⟩
  simp_arith only [f__law_mix, m__law_mix, vMulS w1, vMulS w2, vMulS w3, vMulS w4, vMulS w5]

theorem rangeD_succ (j n : Nat) : rangeD ((j : Nat) : Int) (n + 1) = .int (j : Int) :: rangeD ((j + 1 : Nat) : Int) n := by
  unfold rangeD
  rw [List.range_succ_eq_map, List.map_cons, List.map_map]
  have h1 : ((j : Int) + ((0 : Nat) : Int)) = (j : Int) := by omega
  rw [h1]
  refine congrArg (D.int (j : Int) :: ·) (List.map_congr_left fun k _ => ?_)
  show D.int ((j : Int) + ((k + 1 : Nat) : Int)) = D.int (((j + 1 : Nat) : Int) + (k : Int))
  congr 1; omega
/-! ### touching -/
/-- a box of spans that stand the right way round -/
structure BxOk (m : Nat) (b : List (Int × Int)) : Prop where
  l : b.length = m
  o : ∀ k, k < m → (ptN b k).1 ≤ (ptN b k).2
def ovW (p q : Int × Int) : Bool := decide (q.1 ≤ p.2) && decide (p.1 ≤ q.2)
def touR (a b : List (Int × Int)) : Nat → Nat → Bool
  | _, 0 => true
  | j, r + 1 => ovW (ptN a j) (ptN b j) && touR a b (j + 1) r
def touB (a b : List (Int × Int)) : Bool := touR a b 0 a.length
theorem common_ok {p q : Int × Int} (hp : p.1 ≤ p.2) (hq : q.1 ≤ q.2) : ∃ d, f_common [.tup [.int p.1, .int p.2], .tup [.int q.1, .int q.2]] = .ok d ∧ isFz d = true ∧ gIsN d .non = some (.bl (!ovW p q)) := by
  obtain ⟨a, b⟩ := p
  obtain ⟨c, d⟩ := q
  have hp : a ≤ b := hp
  have hq : c ≤ d := hq
  unfold ovW
  show ∃ x, f_common [.tup [.int a, .int b], .tup [.int c, .int d]] = .ok x ∧ isFz x = true ∧ gIsN x .non = some (.bl (!(decide (c ≤ b) && decide (a ≤ d))))
  by_cases h : mnI b d < mxI a c
  · have h1 : decide (mnI b d < mxI a c) = true := decide_eq_true h
    refine ⟨.non, ?_, rfl, ?_⟩
    · simp_arith only [f_common, m_common, h1]
    · have : (decide (c ≤ b) && decide (a ≤ d)) = false := by
        rw [Bool.and_eq_false_iff, decide_eq_false_iff_not, decide_eq_false_iff_not]
        unfold mnI mxI at h
        split at h <;> split at h <;> omega
      rw [this]; rfl
  · have h1 : decide (mnI b d < mxI a c) = false := decide_eq_false h
    refine ⟨.tup [.int (mxI a c), .int (mnI b d)], ?_, rfl, ?_⟩
    · simp_arith only [f_common, m_common, h1]
    · have : (decide (c ≤ b) && decide (a ≤ d)) = true := by
        rw [Bool.and_eq_true, decide_eq_true_eq, decide_eq_true_eq]
        unfold mnI mxI at h
        split at h <;> split at h <;> omega
      rw [this]; rfl
theorem tou_step {A B : D} {p q r : D} {j : Int} {x : Bool} {fc : List D → CR} (qc : f_common = fc) (ia : gIx A (.int j) = some p) (ib : gIx B (.int j) = some q) (zp : isFz p = true) (zq : isFz q = true) (fp : freeze p = p) (fq : freeze q = q) (ec : fc [p, q] = .ok r) (zr : isFz r = true) (hn : gIsN r .non = some (.bl (!x))) : l_touch_1 [some A, some B, some (.int j)] = if x = true then .nx [some A, some B, some (.int j)] else .rt (.bl false) [some A, some B, some (.int j)] := by
  unfold l_touch_1
  rw [qc]; clear qc
  cases x with
  | true =>
    have hn : gIsN r .non = some (.bl false) := hn
    simp_arith only [ia, ib, zp, zq, fp, fq, ec, zr, hn]
  | false =>
    have hn : gIsN r .non = some (.bl true) := hn
    simp_arith only [ia, ib, zp, zq, fp, fq, ec, zr, hn]
theorem tou_loop {m : Nat} {a b : List (Int × Int)} (ha : BxOk m a) (hb : BxOk m b) : ∀ (r j : Nat) (x : Option D), j + r = m → ∃ y, forL (gN 2) l_touch_1 (rangeD j r) [some (bF a), some (bF b), x] = if touR a b j r = true then .nx [some (bF a), some (bF b), y] else .rt (.bl false) [some (bF a), some (bF b), y]
  | 0, j, x, _ => ⟨x, rfl⟩
  | r + 1, j, x, h => by
    have ea := ix_sp (l := a) (k := j) (by have := ha.l; omega) false
    have eb := ix_sp (l := b) (k := j) (by have := hb.l; omega) false
    obtain ⟨d, ed, zd, nd⟩ := common_ok (ha.o j (by omega)) (hb.o j (by omega))
    have st := tou_step rfl ea eb rfl rfl rfl rfl ed zd nd
    have gg : gN 2 (.int (j : Int)) [some (bF a), some (bF b), x] = some [some (bF a), some (bF b), some (.int (j : Int))] := rfl
    rw [rangeD_succ, x_fo1, gg]
    show ∃ y, forB (l_touch_1 [some (bF a), some (bF b), some (.int (j : Int))]) _ = _
    have st : l_touch_1 [some (bF a), some (bF b), some (.int (j : Int))] = _ := st
    rw [st]
    cases hq : ovW (ptN a j) (ptN b j) with
    | false =>
      refine ⟨some (.int (j : Int)), ?_⟩
      have : touR a b j (r + 1) = false := by show (ovW _ _ && _) = false; rw [hq]; rfl
      rw [this]; rfl
    | true =>
      obtain ⟨y, ih⟩ := tou_loop ha hb r (j + 1) (some (.int (j : Int))) (by omega)
      refine ⟨y, ?_⟩
      have : touR a b j (r + 1) = touR a b (j + 1) r := by show (ovW _ _ && _) = _; rw [hq]; rfl
      rw [this]
      exact ih
theorem touch_ok {m : Nat} {a b : List (Int × Int)} (m4 : m ≤ 100) (ha : BxOk m a) (hb : BxOk m b) : f_touch [bF a, bF b] = .ok (.bl (touB a b)) := by
  obtain ⟨y, h⟩ := tou_loop ha hb m 0 none (by omega)
  have h : forL (gN 2) l_touch_1 (rangeD 0 m) _ = _ := h
  have hl := ha.l
  have er : w_touch_1 [some (bF a), some (bF b), none] = forL (gN 2) l_touch_1 (rangeD 0 m) [some (bF a), some (bF b), none] := by
    unfold w_touch_1
    have l0 := len_sp a false
    rw [hl] at l0
    refine x_for_range (N := (m : Int)) (n := m) ?_ (by omega) (by omega) (by omega)
    unfold bF
    generalize (m : Int) = mm at *
    generalize a.map spD = A at *
    generalize b.map spD = B at *
    simp_arith only [l0]
  have ht : touB a b = touR a b 0 m := by unfold touB; rw [hl]
  have k : ∃ τ, m_touch [some (bF a), some (bF b), none] = .rt (.bl (touB a b)) τ := by
    unfold m_touch
    rw [ht]
    cases q : touR a b 0 m with
    | true =>
      rw [q, if_pos rfl] at h
      exact ⟨_, x_seq_ok (er.trans h) rfl⟩
    | false =>
      rw [q, if_neg (by decide)] at h
      refine ⟨[some (bF a), some (bF b), y], ?_⟩
      rw [x_seq, er, h]; rfl
  obtain ⟨τ, k⟩ := k
  exact (cF_ok (b := m_touch) (n := 2) (N := 3) (ds := [bF a, bF b]) rfl rfl k).trans rfl
theorem ltou_step {A B : D} {j a0 a1 b0 b1 : Int} (ia : gIx A (.int j) = some (.tup [.int a0, .int a1])) (ib : gIx B (.int j) = some (.tup [.int b0, .int b1])) : l__law_touch_1 [some A, some B, some (.int j)] = if (decide (b0 ≤ a1) && decide (a0 ≤ b1)) = true then .nx [some A, some B, some (.int j)] else .rt (.bl false) [some A, some B, some (.int j)] := by
  unfold l__law_touch_1
  by_cases h1 : b0 ≤ a1
  · have e1 : decide (a1 < b0) = false := decide_eq_false (by omega)
    rw [decide_eq_true h1]
    by_cases h2 : a0 ≤ b1
    · have e2 : decide (b1 < a0) = false := decide_eq_false (by omega)
      rw [decide_eq_true h2]
      simp_arith only [ia, ib, e1, e2]
    · have e2 : decide (b1 < a0) = true := decide_eq_true (by omega)
      rw [decide_eq_false h2]
      simp_arith only [ia, ib, e1, e2]
  · have e1 : decide (a1 < b0) = true := decide_eq_true (by omega)
    rw [decide_eq_false h1]
    simp_arith only [ia, ib, e1]
theorem ltou_loop {m : Nat} {a b : List (Int × Int)} (ha : BxOk m a) (hb : BxOk m b) : ∀ (r j : Nat) (x : Option D), j + r = m → ∃ y, forL (gN 2) l__law_touch_1 (rangeD j r) [some (bF a), some (bF b), x] = if touR a b j r = true then .nx [some (bF a), some (bF b), y] else .rt (.bl false) [some (bF a), some (bF b), y]
  | 0, j, x, _ => ⟨x, rfl⟩
  | r + 1, j, x, h => by
    have ea := ix_sp (l := a) (k := j) (by have := ha.l; omega) false
    have eb := ix_sp (l := b) (k := j) (by have := hb.l; omega) false
    have st := ltou_step ea eb
    have gg : gN 2 (.int (j : Int)) [some (bF a), some (bF b), x] = some [some (bF a), some (bF b), some (.int (j : Int))] := rfl
    rw [rangeD_succ, x_fo1, gg]
    show ∃ y, forB (l__law_touch_1 [some (bF a), some (bF b), some (.int (j : Int))]) _ = _
    have st : l__law_touch_1 [some (bF a), some (bF b), some (.int (j : Int))] = if ovW (ptN a j) (ptN b j) = true then _ else _ := st
    rw [st]
    cases hq : ovW (ptN a j) (ptN b j) with
    | false =>
      refine ⟨some (.int (j : Int)), ?_⟩
      have : touR a b j (r + 1) = false := by show (ovW _ _ && _) = false; rw [hq]; rfl
      rw [this]; rfl
    | true =>
      obtain ⟨y, ih⟩ := ltou_loop ha hb r (j + 1) (some (.int (j : Int))) (by omega)
      refine ⟨y, ?_⟩
      have : touR a b j (r + 1) = touR a b (j + 1) r := by show (ovW _ _ && _) = _; rw [hq]; rfl
      rw [this]
      exact ih
theorem ltouch_ok {m : Nat} {a b : List (Int × Int)} (m4 : m ≤ 100) (ha : BxOk m a) (hb : BxOk m b) : f__law_touch [bF a, bF b] = .ok (.bl (touB a b)) := by
  obtain ⟨y, h⟩ := ltou_loop ha hb m 0 none (by omega)
  have h : forL (gN 2) l__law_touch_1 (rangeD 0 m) _ = _ := h
  have hl := ha.l
  have er : w__law_touch_1 [some (bF a), some (bF b), none] = forL (gN 2) l__law_touch_1 (rangeD 0 m) [some (bF a), some (bF b), none] := by
    unfold w__law_touch_1
    have l0 := len_sp a false
    rw [hl] at l0
    refine x_for_range (N := (m : Int)) (n := m) ?_ (by omega) (by omega) (by omega)
    unfold bF
    generalize (m : Int) = mm at *
    generalize a.map spD = A at *
    generalize b.map spD = B at *
    simp_arith only [l0]
  have ht : touB a b = touR a b 0 m := by unfold touB; rw [hl]
  have k : ∃ τ, m__law_touch [some (bF a), some (bF b), none] = .rt (.bl (touB a b)) τ := by
    unfold m__law_touch
    rw [ht]
    cases q : touR a b 0 m with
    | true =>
      rw [q, if_pos rfl] at h
      exact ⟨_, x_seq_ok (er.trans h) rfl⟩
    | false =>
      rw [q, if_neg (by decide)] at h
      refine ⟨[some (bF a), some (bF b), y], ?_⟩
      rw [x_seq, er, h]; rfl
  obtain ⟨τ, k⟩ := k
  exact (cF_ok (b := m__law_touch) (n := 2) (N := 3) (ds := [bF a, bF b]) rfl rfl k).trans rfl
theorem touR_symm (a b : List (Int × Int)) : ∀ (r j : Nat), touR a b j r = touR b a j r
  | 0, _ => rfl
  | r + 1, j => by
    show (ovW _ _ && _) = (ovW _ _ && _)
    rw [touR_symm a b r (j + 1)]
    unfold ovW
    rw [Bool.and_comm (decide _) (decide _)]
theorem touB_symm {m : Nat} {a b : List (Int × Int)} (ha : a.length = m) (hb : b.length = m) : touB a b = touB b a := by unfold touB; rw [ha, hb, touR_symm]
/-! ### the boxes -/
theorem box_ok (c : Int) {m : Nat} (m4 : m ≤ 10) {w : Int} (w1 : 1 ≤ w) (w2 : w ≤ 100) : ∃ b : List (Int × Int), f__law_box [.int c, .int (m : Int), .int w] = .ok (bO b) ∧ BxOk m b ∧ ∀ p ∈ b, p.1.natAbs ≤ 1000 ∧ p.2.natAbs ≤ 1000 := by
  obtain ⟨τ', e, b, x4, x5, hb, hs, hx⟩ := for_idx (g := gN 4) (b := l__law_box_1) (fun k τ => ∃ b x4 x5, BxOk k b ∧ (∀ p ∈ b, p.1.natAbs ≤ 1000 ∧ p.2.natAbs ≤ 1000) ∧ τ = [some (.int c), some (.int (m : Int)), some (.int w), some (bO b), x4, x5]) (rangeD 0 m) 0 [some (.int c), some (.int (m : Int)), some (.int w), some (.lst true []), none, none] (fun k d τ hd hI => by
    obtain ⟨hk, rfl⟩ := rangeD_get hd
    obtain ⟨b, x4, x5, hb, hs, rfl⟩ := hI
    rw [Int.zero_add, Nat.zero_add]
    rw [Nat.zero_add] at hb
    obtain ⟨v1, e1, a1, b1⟩ := mix_ok c (k : Int) (by omega) (by omega)
    obtain ⟨v2, e2, a2, b2⟩ := mix_ok c ((k : Int) + 10) (by omega) (by omega)
    have vm := vMod (i := v1) (j := w) (by omega)
    have q1 := Int.emod_nonneg v1 (show w ≠ 0 by omega)
    have q2 := Int.emod_lt_of_pos v1 (show 0 < w by omega)
    obtain ⟨lo, hlo⟩ : ∃ lo, v1 % w = lo := ⟨_, rfl⟩
    rw [hlo] at vm q1 q2
    have hl : (b.map spD).length < 1000000 := by rw [List.length_map, hb.l]; omega
    refine ⟨_, [some (.int c), some (.int (m : Int)), some (.int w), some (bO (b ++ [(lo, lo + v2 % 5)])), some (.int (k : Int)), some (.int lo)], x_gN, .inl ?_, b ++ [(lo, lo + v2 % 5)], _, _, ⟨?_, fun j hj => ?_⟩, fun p hp => ?_, rfl⟩
    · unfold bO
      rw [List.map_append, List.map_cons, List.map_nil]
      show l__law_box_1 [some (.int c), some (.int (m : Int)), some (.int w), some (.lst true (b.map spD)), some (.int (k : Int)), x5] = .nx [_, _, _, some (.lst true (b.map spD ++ [.tup [.int lo, .int (lo + v2 % 5)]])), _, _]
      generalize b.map spD = B at *
      generalize (m : Int) = mm at *
      generalize (k : Int) = kk at *
      generalize hf : f__law_mix = fm at *
      simp_arith only [l__law_box_1, hf, e1, e2, vm, hl]
    · rw [List.length_append, hb.l]; rfl
    · unfold ptN
      rw [List.getD_eq_getElem?_getD]
      by_cases z : j < k
      · rw [List.getElem?_append_left (by rw [hb.l]; exact z)]
        have := hb.o j z
        unfold ptN at this
        rw [List.getD_eq_getElem?_getD] at this
        exact this
      · have hj : j = k := by omega
        subst hj
        rw [List.getElem?_append_right (by rw [hb.l]; exact Nat.le_refl _), hb.l, Nat.sub_self]
        show lo ≤ lo + v2 % 5
        omega
    · rcases List.mem_append.mp hp with q | q
      · exact hs p q
      · cases List.mem_singleton.mp q
        show lo.natAbs ≤ 1000 ∧ (lo + v2 % 5).natAbs ≤ 1000
        omega) ⟨[], none, none, ⟨rfl, fun k hk => by omega⟩, ⟨fun p hp => (by cases hp), rfl⟩⟩
  rw [Nat.zero_add, length_rangeD] at hb
  subst hx
  refine ⟨b, ?_, hb, hs⟩
  have w : w__law_box_1 [some (.int c), some (.int (m : Int)), some (.int w), some (.lst true []), none, none] = .nx [some (.int c), some (.int (m : Int)), some (.int w), some (bO b), x4, x5] := by
    unfold w__law_box_1
    rw [x_for_range (N := (m : Int)) (n := m) (τ1 := [some (.int c), some (.int (m : Int)), some (.int w), some (.lst true []), none, none]) (by simp_arith only [x_seq]) (by omega) (by omega) (by omega)]
    exact e
  have k : m__law_box [some (.int c), some (.int (m : Int)), some (.int _), none, none, none] = .rt (bO b) [some (.int c), some (.int (m : Int)), some (.int _), none, x4, x5] := x_seq_ok (τ1 := _) rfl (x_seq_ok w rfl)
  exact (cF_ok (b := m__law_box) (n := 3) (N := 6) (ds := [.int c, .int (m : Int), .int _]) rfl rfl k).trans rfl
/-- moved far away -/
def farP (F mv : Int) (p : Int × Int) : Int × Int := (p.1 * F - mv, p.2 * F - mv)
theorem far_ok {b : List (Int × Int)} {mv : Int} (hl : b.length ≤ 100) (hb : ∀ p ∈ b, p.1.natAbs ≤ 1000 ∧ p.2.natAbs ≤ 1000) : f__law_far [bF b, .int 1000000000000, .int mv] = .ok (bO (b.map (farP 1000000000000 mv))) := by
  have e := lc_pickx (own := [3, 4]) (g := gT 2 (gCons' (gN 3) (gCons' (gN 4) gNil'))) (t := tTrue) (m := eTup (aCons (eZ (Bn.z2 gSub (Bn.z2 gMul (zVar 3) (zVar 1)) (zVar 2))) (aCons (eZ (Bn.z2 gSub (Bn.z2 gMul (zVar 4) (zVar 1)) (zVar 2))) aNil))) [some (bF b), some (.int 1000000000000), some (.int mv), none, none] spD (fun _ => true) (fun p => spD (farP 1000000000000 mv p)) b [] (by rw [List.length_nil]; omega) fun p hp => by
    obtain ⟨x, y⟩ := p
    obtain ⟨h1, h2⟩ := hb _ hp
    have h1 : x.natAbs ≤ 1000 := h1
    have h2 : y.natAbs ≤ 1000 := h2
    have w1 : L2.CMulW x 1000000000000 := mulW 20 60 (by omega) (by decide) (by decide)
    have w2 : L2.CMulW y 1000000000000 := mulW 20 60 (by omega) (by decide) (by decide)
    refine ⟨[some (bF b), some (.int 1000000000000), some (.int mv), some (.int x), some (.int y)], [some (bF b), some (.int 1000000000000), some (.int mv), some (.int x), some (.int y)], rfl, rfl, rfl, fun _ => ⟨[some (bF b), some (.int 1000000000000), some (.int mv), some (.int x), some (.int y)], ?_, rfl⟩⟩
    unfold farP spD
    generalize bF b = B at *
    simp_arith only [vMul w1, vMul w2]
  rw [List.nil_append, List.filter_eq_self.mpr (fun _ _ => rfl)] at e
  have em : (b.map (farP 1000000000000 mv)).map spD = b.map fun p => spD (farP 1000000000000 mv p) := by rw [List.map_map]; rfl
  unfold bO
  rw [em]
  have fB := fz_sp b
  have ec : c__law_far_1 [some (bF b), some (.int 1000000000000), some (.int mv), none, none] = .ok (.lst true (b.map fun p => spD (farP 1000000000000 mv p))) [some (bF b), some (.int 1000000000000), some (.int mv), none, none] := by
    unfold c__law_far_1 bF at *
    generalize (eTup (aCons (eZ (Bn.z2 gSub (Bn.z2 gMul (zVar 3) (zVar 1)) (zVar 2))) (aCons (eZ (Bn.z2 gSub (Bn.z2 gMul (zVar 4) (zVar 1)) (zVar 2))) aNil))) = mm at *
    generalize (b.map fun p => spD (farP 1000000000000 mv p)) = Q at *
    generalize b.map spD = B at *
    simp_arith only [fB, e]
  unfold f__law_far m__law_far
  generalize c__law_far_1 = cc at *
  generalize (b.map fun p => spD (farP 1000000000000 mv p)) = Q at *
  unfold bF at *
  generalize b.map spD = B at *
  simp_arith only [ec]
theorem far_bx {m : Nat} {b : List (Int × Int)} (h : BxOk m b) (mv : Int) : BxOk m (b.map (farP 1000000000000 mv)) := by
  refine ⟨by rw [List.length_map]; exact h.l, fun k hk => ?_⟩
  have := h.o k hk
  have hk : k < b.length := by rw [h.l]; exact hk
  unfold ptN at *
  rw [List.getD_eq_getElem?_getD, List.getElem?_eq_getElem hk] at this
  rw [List.getD_eq_getElem?_getD, List.getElem?_map, List.getElem?_eq_getElem hk]
  show (b[k]).1 * 1000000000000 - mv ≤ (b[k]).2 * 1000000000000 - mv
  have : (b[k]).1 ≤ (b[k]).2 := this
  omega

/-! ### numbers -/
def nI (k : Nat) : D := .int (k : Int)
theorem fz_nI (N : List Nat) : freezeL (N.map nI) = N.map nI := fz_map (fun _ => rfl) N
theorem in_nats (k : Nat) (N : List Nat) (m neg : Bool) : gIn neg (.int (k : Int)) (.lst m (N.map nI)) = some (.bl (if neg = true then !N.contains k else N.contains k)) := by
  show (if flatD (.int (k : Int)) = true ∧ (N.map nI).all flatD = true then some (D.bl (if neg = true then !L2.inV (toV (.int (k : Int))) ((N.map nI).map toV) else L2.inV (toV (.int (k : Int))) ((N.map nI).map toV))) else none) = _
  rw [if_pos ⟨rfl, by rw [List.all_map]; exact List.all_eq_true.mpr fun _ _ => rfl⟩]
  have e : L2.inV (toV (.int (k : Int))) ((N.map nI).map toV) = N.contains k := by
    unfold L2.inV
    rw [List.map_map, List.any_map]
    have h : ∀ y : Nat, (L2.eqV (toV (nI y)) (toV (.int (k : Int)))) = (k == y) := fun y => by
      show (((y : Int)) == ((k : Int))) = (k == y)
      rw [Bool.eq_iff_iff, beq_iff_eq, beq_iff_eq]
      omega
    rw [List.contains_eq_any_beq]
    exact List.any_congr rfl fun y => h y
  rw [e]
theorem strict_eq : ∀ {l1 l2 : List Int}, l1.Pairwise (· < ·) → l2.Pairwise (· < ·) → (∀ x, x ∈ l1 ↔ x ∈ l2) → l1 = l2
  | [], [], _, _, _ => rfl
  | [], y :: l2, _, _, h => by have := (h y).mpr List.mem_cons_self; cases this
  | x :: l1, [], _, _, h => by have := (h x).mp List.mem_cons_self; cases this
  | x :: l1, y :: l2, h1, h2, h => by
    obtain ⟨a1, a2⟩ := List.pairwise_cons.mp h1
    obtain ⟨b1, b2⟩ := List.pairwise_cons.mp h2
    have e : x = y := by
      rcases List.mem_cons.mp ((h x).mp List.mem_cons_self) with q | q
      · exact q
      · rcases List.mem_cons.mp ((h y).mpr List.mem_cons_self) with z | z
        · exact z.symm
        · have := b1 x q; have := a1 y z; omega
    subst e
    refine congrArg (x :: ·) (strict_eq a2 b2 fun z => ⟨fun q => ?_, fun q => ?_⟩)
    · rcases List.mem_cons.mp ((h z).mp (List.mem_cons_of_mem _ q)) with w | w
      · have := a1 z q; omega
      · exact w
    · rcases List.mem_cons.mp ((h z).mpr (List.mem_cons_of_mem _ q)) with w | w
      · have := b1 z q; omega
      · exact w
theorem sort_nats {N : List Nat} (nd : N.Nodup) {n : Nat} {P : Nat → Bool} (h : ∀ k, k ∈ N ↔ k < n ∧ P k = true) : sortI (N.map fun k : Nat => (k : Int)) = ((List.range n).filter P).map fun k : Nat => (k : Int) := by
  refine strict_eq ?_ ?_ fun x => ?_
  · have s := sortI_sorted (N.map fun k : Nat => (k : Int))
    have nd2 : (sortI (N.map fun k : Nat => (k : Int))).Nodup := (sortI_perm _).nodup_iff.mpr (by
      rw [List.Nodup, List.pairwise_map]
      exact nd.imp fun {a b} q => by omega)
    exact (s.and nd2).imp fun {a b} q => by obtain ⟨q1, q2⟩ := q; omega
  · rw [List.pairwise_map]
    exact (List.Pairwise.filter _ List.pairwise_lt_range).imp fun {a b} q => by omega
  · rw [(sortI_perm _).mem_iff, List.mem_map, List.mem_map]
    constructor
    · rintro ⟨k, hk, e⟩
      obtain ⟨h1, h2⟩ := (h k).mp hk
      exact ⟨k, List.mem_filter.mpr ⟨List.mem_range.mpr h1, h2⟩, e⟩
    · rintro ⟨k, hk, e⟩
      obtain ⟨h1, h2⟩ := List.mem_filter.mp hk
      exact ⟨k, (h k).mpr ⟨List.mem_range.mp h1, h2⟩, e⟩
theorem ints_nats (N : List Nat) : intsOf (N.map nI) = some (N.map fun k : Nat => (k : Int)) := by
  have := ints_map (N.map fun k : Nat => (k : Int))
  rw [List.map_map] at this
  exact this
/-! ### the walk of a grown set -/
section
variable {n m : Nat} {Bs : List (List (Int × Int))}
def bx (Bs : List (List (Int × Int))) (i : Nat) : List (Int × Int) := Bs.getD i []
def TT (Bs : List (List (Int × Int))) (i j : Nat) : Bool := touB (bx Bs i) (bx Bs j)
structure BsOk (m n : Nat) (Bs : List (List (Int × Int))) : Prop where
  l : Bs.length = n
  n63 : n ≤ 63
  m1 : 1 ≤ m
  m4 : m ≤ 10
  b : ∀ i, i < n → BxOk m (bx Bs i)
theorem ix_bs (h : BsOk m n Bs) {i : Nat} (hi : i < n) (mm : Bool) : gIx (.lst mm (Bs.map bF)) (.int (i : Int)) = some (bF (bx Bs i)) := vIxL_of (k := i) rfl (by
  have := h.l
  unfold bx
  rw [List.getElem?_map, List.getD_eq_getElem?_getD, List.getElem?_eq_getElem (by omega)]; rfl)
theorem TT_symm (h : BsOk m n Bs) (i j : Nat) (hi : i < n) (hj : j < n) (ht : TT Bs i j = true) : TT Bs j i = true := by
  unfold TT at *
  rw [touB_symm (h.b j hj).l (h.b i hi).l]
  exact ht
theorem gr_no {BS N : List D} {f a k : Int} (hin : gIn true (.int k) (.lst true N) = some (.bl false)) : l_grown_from_1 [some (.lst false BS), some (.int f), some (.lst true N), some (.int a), some (.int k)] = .nx [some (.lst false BS), some (.int f), some (.lst true N), some (.int a), some (.int k)] := by
  unfold l_grown_from_1
  simp_arith only [hin]
theorem gr_yes {BS N : List D} {f a k x : Int} {p q : D} {t : Bool} {ft : List D → CR} (qt : f_touch = ft) (hin : gIn true (.int k) (.lst true N) = some (.bl true)) (ia : gIx (.lst true N) (.int a) = some (.int x)) (ix : gIx (.lst false BS) (.int x) = some p) (ik : gIx (.lst false BS) (.int k) = some q) (zp : isFz p = true) (zq : isFz q = true) (fp : freeze p = p) (fq : freeze q = q) (et : ft [p, q] = .ok (.bl t)) (hl : N.length < 1000000) : l_grown_from_1 [some (.lst false BS), some (.int f), some (.lst true N), some (.int a), some (.int k)] = .nx [some (.lst false BS), some (.int f), some (.lst true (if t = true then N ++ [.int k] else N)), some (.int a), some (.int k)] := by
  unfold l_grown_from_1
  rw [qt]; clear qt
  cases t with
  | true => simp_arith only [hin, ia, ix, ik, zp, zq, fp, fq, et, hl]
  | false => simp_arith only [hin, ia, ix, ik, zp, zq, fp, fq, et, hl]
theorem gr_step (h : BsOk m n Bs) {N : List Nat} {f : Int} {a k x : Nat} (ha : N[a]? = some x) (hx : x < n) (hk : k < n) (hl : N.length < 900000) : l_grown_from_1 [some (.lst false (Bs.map bF)), some (.int f), some (.lst true (N.map nI)), some (.int (a : Int)), some (.int (k : Int))] = .nx [some (.lst false (Bs.map bF)), some (.int f), some (.lst true ((scanS (TT Bs) x N k).map nI)), some (.int (a : Int)), some (.int (k : Int))] := by
  have hin := in_nats k N true true
  unfold scanS
  cases hc : N.contains k with
  | true =>
    rw [hc] at hin
    rw [if_neg (by simp)]
    exact gr_no hin
  | false =>
    rw [hc] at hin
    have ia : gIx (.lst true (N.map nI)) (.int (a : Int)) = some (.int (x : Int)) := vIxL_of (k := a) rfl (by rw [List.getElem?_map, ha]; rfl)
    have et := touch_ok (by have := h.m4; omega) (h.b x hx) (h.b k hk)
    have st := gr_yes (f := f) rfl hin ia (ix_bs h hx false) (ix_bs h hk false) rfl rfl rfl rfl et (by rw [List.length_map]; omega)
    rw [st]
    show SR.nx [_, _, some (.lst true (if TT Bs x k = true then _ else _)), _, _] = _
    cases TT Bs x k with
    | true => rw [if_pos rfl, if_pos (by simp), List.map_append]; rfl
    | false => rw [if_neg (by decide), if_neg (by simp)]
theorem gr_loop (h : BsOk m n Bs) {f : Int} {a x : Nat} (hx : x < n) : ∀ (r j : Nat) (N : List Nat) (x4 : Option D), j + r = n → N[a]? = some x → N.length + r < 900000 → ∃ y4, forL (gN 4) l_grown_from_1 (rangeD j r) [some (.lst false (Bs.map bF)), some (.int f), some (.lst true (N.map nI)), some (.int (a : Int)), x4] = .nx [some (.lst false (Bs.map bF)), some (.int f), some (.lst true (((List.range' j r).foldl (scanS (TT Bs) x) N).map nI)), some (.int (a : Int)), y4]
  | 0, j, N, x4, _, _, _ => ⟨x4, rfl⟩
  | r + 1, j, N, x4, hj, ha, hl => by
    have st := gr_step (f := f) h ha hx (k := j) (by omega) (by omega)
    have hs : (scanS (TT Bs) x N j)[a]? = some x ∧ (scanS (TT Bs) x N j).length ≤ N.length + 1 := by
      unfold scanS
      split
      · exact ⟨by rw [List.getElem?_append_left (List.getElem?_eq_some_iff.mp ha).1]; exact ha, by simp⟩
      · exact ⟨ha, by omega⟩
    obtain ⟨y4, ih⟩ := gr_loop h (f := f) (a := a) hx r (j + 1) (scanS (TT Bs) x N j) (some (.int (j : Int))) (by omega) hs.1 (by omega)
    refine ⟨y4, ?_⟩
    rw [rangeD_succ, x_fo1]
    show forB (l_grown_from_1 [some (.lst false (Bs.map bF)), some (.int f), some (.lst true (N.map nI)), some (.int (a : Int)), some (.int (j : Int))]) _ = _
    rw [st, List.range'_succ, List.foldl_cons]
    exact ih
theorem gr_while (h : BsOk m n Bs) {f0 : Nat} {f : Int} : ∀ (fuel a : Nat) (N : List Nat) (x4 : Option D), Grown n (TT Bs) f0 N → n < fuel + a → a ≤ 900 → ∃ y3 y4, whileM (tZ (Bn.z2 gLt (zVar 3) (zC' gLen (zaCons (zVar 2) zaNil)))) (sSeq w_grown_from_1 (sAsg (eZ (Bn.z2 gAdd (zVar 3) (zC (.int 1)))) (gN 3))) (fuel + 1) [some (.lst false (Bs.map bF)), some (.int f), some (.lst true (N.map nI)), some (.int (a : Int)), x4] = .nx [some (.lst false (Bs.map bF)), some (.int f), some (.lst true ((grow n (TT Bs) fuel a N).map nI)), y3, y4]
  | fuel, a, N, x4, g, hf, h9 => by
    have n63 := h.n63
    have gl := g.len
    have hln : gLen [.lst true (N.map nI)] = some (.int (N.length : Int)) := by rw [vLenL, List.length_map]
    by_cases c : a < N.length
    · have d : decide ((a : Int) < (N.length : Int)) = true := decide_eq_true (by omega)
      cases fuel with
      | zero => omega
      | succ fuel =>
        have ha : N[a]? = some N[a] := List.getElem?_eq_getElem c
        have hx : N[a] < n := g.lt _ (List.getElem_mem c)
        obtain ⟨y4, hw⟩ := gr_loop h (f := f) hx n 0 N x4 (by omega) ha (by omega)
        have hw : forL (gN 4) l_grown_from_1 (rangeD 0 n) _ = _ := hw
        have er : (List.range' 0 n).foldl (scanS (TT Bs) N[a]) N = scanW n (TT Bs) N[a] N := by unfold scanW; rw [List.range_eq_range']
        rw [er] at hw
        obtain ⟨g1, _, _⟩ := Grown.scans (List.range n) g (List.getElem_mem c) fun k hk => List.mem_range.mp hk
        have g1 : Grown n (TT Bs) f0 (scanW n (TT Bs) N[a] N) := g1
        obtain ⟨z3, z4, ih⟩ := gr_while h (f := f) fuel (a + 1) (scanW n (TT Bs) N[a] N) y4 g1 (by omega) (by omega)
        refine ⟨z3, z4, ?_⟩
        have lB : gLen [.lst false (Bs.map bF)] = some (.int (n : Int)) := by rw [vLenL, List.length_map, h.l]
        have w1 : w_grown_from_1 [some (.lst false (Bs.map bF)), some (.int f), some (.lst true (N.map nI)), some (.int (a : Int)), x4] = .nx [some (.lst false (Bs.map bF)), some (.int f), some (.lst true ((scanW n (TT Bs) N[a] N).map nI)), some (.int (a : Int)), y4] := by
          unfold w_grown_from_1
          rw [x_for_range (N := (n : Int)) (n := n) (τ1 := [some (.lst false (Bs.map bF)), some (.int f), some (.lst true (N.map nI)), some (.int (a : Int)), x4]) ?_ (by omega) (by omega) (by omega)]
          · exact hw
          · generalize Bs.map bF = BS at *
            generalize N.map nI = NN at *
            simp_arith only [lB]
        have hg : grow n (TT Bs) (fuel + 1) a N = grow n (TT Bs) fuel (a + 1) (scanW n (TT Bs) N[a] N) := by
          show (if a < N.length then _ else _) = _
          rw [if_pos c, List.getD_eq_getElem?_getD, ha]; rfl
        rw [hg]
        rw [Int.natCast_succ] at ih
        have b1 : (sSeq w_grown_from_1 (sAsg (eZ (Bn.z2 gAdd (zVar 3) (zC (.int 1)))) (gN 3))) [some (.lst false (Bs.map bF)), some (.int f), some (.lst true (N.map nI)), some (.int (a : Int)), x4] = .nx [some (.lst false (Bs.map bF)), some (.int f), some (.lst true ((scanW n (TT Bs) N[a] N).map nI)), some (.int ((a : Int) + 1)), y4] := x_seq_ok w1 (by
          generalize Bs.map bF = BS at *
          generalize (scanW n (TT Bs) N[a] N).map nI = NN at *
          simp_arith only [x_seq])
        have t1 : (tZ (Bn.z2 gLt (zVar 3) (zC' gLen (zaCons (zVar 2) zaNil)))) [some (.lst false (Bs.map bF)), some (.int f), some (.lst true (N.map nI)), some (.int (a : Int)), x4] = .ok true [some (.lst false (Bs.map bF)), some (.int f), some (.lst true (N.map nI)), some (.int (a : Int)), x4] := by
          generalize Bs.map bF = BS at *
          generalize N.map nI = NN at *
          simp_arith only [hln, d]
        rw [x_wh, t1, x_wh1, b1, x_fo3]
        exact ih
    · have d : decide ((a : Int) < (N.length : Int)) = false := decide_eq_false (by omega)
      have hg : grow n (TT Bs) fuel a N = N := by
        cases fuel with
        | zero => rfl
        | succ fuel => show (if a < N.length then _ else _) = _; rw [if_neg c]
      rw [hg]
      have t1 : (tZ (Bn.z2 gLt (zVar 3) (zC' gLen (zaCons (zVar 2) zaNil)))) [some (.lst false (Bs.map bF)), some (.int f), some (.lst true (N.map nI)), some (.int (a : Int)), x4] = .ok false [some (.lst false (Bs.map bF)), some (.int f), some (.lst true (N.map nI)), some (.int (a : Int)), x4] := by
        generalize Bs.map bF = BS at *
        generalize N.map nI = NN at *
        simp_arith only [hln, d]
      exact ⟨_, _, by rw [x_wh, t1, x_wh2]⟩
def mk (Bs : List (List (Int × Int))) (k : Nat) : Nat := marksF (TT Bs) Bs.length k
/-- the numbers that are marked as f -/
def compW (Bs : List (List (Int × Int))) (f : Nat) : List Nat := (List.range Bs.length).filter fun k => mk Bs k == f
theorem lab_ok (h : BsOk m n Bs) : Lab n (TT Bs) n (mk Bs) := by
  have := marks_ok (n := n) (T := TT Bs) (TT_symm h) n (Nat.le_refl _)
  unfold mk
  rw [h.l]
  exact this
theorem grown_ok (h : BsOk m n Bs) {f : Nat} (hf : f < n) (hM : mk Bs f = f) : f_grown_from [.lst false (Bs.map bF), .int (f : Int)] = .ok (.lst true ((compW Bs f).map nI)) := by
  have lab := lab_ok h
  have hg := grown_one (T := TT Bs) hf
  obtain ⟨y3, y4, hw⟩ := gr_while h (f := (f : Int)) (n + 1) 0 [f] none hg (by omega) (by omega)
  obtain ⟨g1, g2⟩ := grow_ok (n + 1) 0 [f] hg (by omega) fun i x hi => by omega
  have hm := fun k => grow_mem (T := TT Bs) hf k
  obtain ⟨G, hG⟩ : ∃ G, grow n (TT Bs) (n + 1) 0 [f] = G := ⟨_, rfl⟩
  rw [hG] at hw g1 hm
  have hs : sortI (G.map fun k : Nat => (k : Int)) = (compW Bs f).map fun k : Nat => (k : Int) := by
    unfold compW
    rw [h.l]
    refine sort_nats g1.nd fun k => ?_
    rw [hm k]
    constructor
    · intro q
      have hk := q.lt hf
      have := (lab.conn (TT_symm h) hf hk).mp q
      exact ⟨hk, by rw [← this, hM]; simp⟩
    · rintro ⟨hk, q⟩
      have q : mk Bs k = f := by simpa using q
      exact (lab.conn (TT_symm h) hf hk).mpr (by rw [hM, q])
  have em : (compW Bs f).map nI = ((compW Bs f).map fun k : Nat => (k : Int)).map D.int := by rw [List.map_map]; rfl
  have fl : fuel_grown_from1 [some (.lst false (Bs.map bF)), some (.int (f : Int)), some (.lst true [nI f]), some (.int 0), none] = (n + 1) + 1 := by
    show (Bs.map bF).length + 2 = _
    rw [List.length_map, h.l]
  have w : sWhile fuel_grown_from1 (tZ (Bn.z2 gLt (zVar 3) (zC' gLen (zaCons (zVar 2) zaNil)))) (sSeq w_grown_from_1 (sAsg (eZ (Bn.z2 gAdd (zVar 3) (zC (.int 1)))) (gN 3))) [some (.lst false (Bs.map bF)), some (.int (f : Int)), some (.lst true [nI f]), some (.int 0), none] = .nx [some (.lst false (Bs.map bF)), some (.int (f : Int)), some (.lst true (G.map nI)), y3, y4] := by
    rw [x_wh0, fl]
    exact hw
  have fG := fz_nI G
  have iG := ints_nats G
  have u3 : u_grown_from_3 [some (.lst false (Bs.map bF)), some (.int (f : Int)), some (.lst true (G.map nI)), y3, y4] = .rt (.lst true ((compW Bs f).map nI)) [some (.lst false (Bs.map bF)), some (.int (f : Int)), some (.lst false (G.map nI)), y3, y4] := by
    rw [em, ← hs]
    generalize (G.map fun k : Nat => (k : Int)) = GI at *
    generalize G.map nI = GG at *
    generalize Bs.map bF = BS at *
    simp_arith only [u_grown_from_3, fG, iG]
  have k : m_grown_from [some (.lst false (Bs.map bF)), some (.int (f : Int)), none, none, none] = .rt (.lst true ((compW Bs f).map nI)) [some (.lst false (Bs.map bF)), some (.int (f : Int)), some (.lst false (G.map nI)), y3, y4] := x_seq_ok (τ1 := [some (.lst false (Bs.map bF)), some (.int (f : Int)), some (.lst true [nI f]), none, none]) rfl (x_seq_ok (τ1 := [some (.lst false (Bs.map bF)), some (.int (f : Int)), some (.lst true [nI f]), some (.int 0), none]) rfl (x_seq_ok w u3))
  exact (cF_ok (b := m_grown_from) (n := 2) (N := 5) (ds := [.lst false (Bs.map bF), .int (f : Int)]) rfl rfl k).trans rfl
end

/-! ### the hull -/
section
variable {n m : Nat} {Bs : List (List (Int × Int))}
def hlW (m : Nat) (s b : List (Int × Int)) : List (Int × Int) := (List.range m).map fun k => (mnI (ptN s k).1 (ptN b k).1, mxI (ptN s k).2 (ptN b k).2)
def endK (Bs : List (List (Int × Int))) (k : Nat) : List Nat → Int × Int
  | [] => (0, 0)
  | i :: r => (minI (ptN (bx Bs i) k).1 (r.map fun j => (ptN (bx Bs j) k).1), maxI (ptN (bx Bs i) k).2 (r.map fun j => (ptN (bx Bs j) k).2))
def endsW (m : Nat) (Bs : List (List (Int × Int))) (N : List Nat) : List (Int × Int) := (List.range m).map fun k => endK Bs k N
theorem ptN_map (m : Nat) (f : Nat → Int × Int) {k : Nat} (hk : k < m) : ptN ((List.range m).map f) k = f k := by
  unfold ptN
  rw [List.getD_eq_getElem?_getD, List.getElem?_map, List.getElem?_range hk]; rfl
theorem list_of_pt {l : List (Int × Int)} {m : Nat} (h : l.length = m) : l = (List.range m).map fun k => ptN l k := by
  refine List.ext_getElem? fun k => ?_
  rw [List.getElem?_map]
  by_cases hk : k < m
  · rw [List.getElem?_range hk, List.getElem?_eq_getElem (by omega)]
    show _ = some (ptN l k)
    unfold ptN
    rw [List.getD_eq_getElem?_getD, List.getElem?_eq_getElem (by omega)]; rfl
  · rw [List.getElem?_eq_none (by omega), List.getElem?_eq_none (by rw [List.length_range]; omega)]; rfl
theorem fold_hull (m : Nat) (Bs : List (List (Int × Int))) {k : Nat} (hk : k < m) : ∀ (N : List Nat) (s : List (Int × Int)), ptN (N.foldl (fun s i => hlW m s (bx Bs i)) s) k = (minI (ptN s k).1 (N.map fun j => (ptN (bx Bs j) k).1), maxI (ptN s k).2 (N.map fun j => (ptN (bx Bs j) k).2))
  | [], s => rfl
  | i :: N, s => by
    rw [List.foldl_cons, fold_hull m Bs hk N, List.map_cons, List.map_cons]
    have e : ptN (hlW m s (bx Bs i)) k = (mnI (ptN s k).1 (ptN (bx Bs i) k).1, mxI (ptN s k).2 (ptN (bx Bs i) k).2) := ptN_map m _ hk
    rw [e]
    rfl
theorem fold_len (m : Nat) (Bs : List (List (Int × Int))) : ∀ (N : List Nat) (s : List (Int × Int)), s.length = m → (N.foldl (fun s i => hlW m s (bx Bs i)) s).length = m
  | [], s, h => h
  | i :: N, s, _ => by
    rw [List.foldl_cons]
    exact fold_len m Bs N _ (by unfold hlW; rw [List.length_map, List.length_range])
theorem mn_self (a : Int) : mnI a a = a := by unfold mnI; split <;> rfl
theorem mx_self (a : Int) : mxI a a = a := by unfold mxI; split <;> rfl
theorem hull_ends (m : Nat) {Bs : List (List (Int × Int))} {i : Nat} {r : List Nat} (hl : (bx Bs i).length = m) : (i :: r).foldl (fun s i => hlW m s (bx Bs i)) (bx Bs i) = endsW m Bs (i :: r) := by
  rw [list_of_pt (fold_len m Bs (i :: r) (bx Bs i) hl)]
  unfold endsW
  refine List.map_congr_left fun k hk => ?_
  have hk : k < m := List.mem_range.mp hk
  rw [fold_hull m Bs hk]
  show (minI (mnI _ _) _, maxI (mxI _ _) _) = _
  rw [mn_self, mx_self]
  rfl
theorem hull_one (p q : Int × Int) : f_hull [.tup [.int p.1, .int p.2], .tup [.int q.1, .int q.2]] = .ok (spD (mnI p.1 q.1, mxI p.2 q.2)) := by
  obtain ⟨a, b⟩ := p
  obtain ⟨c, d⟩ := q
  simp_arith only [f_hull, m_hull, spD]
theorem hull_step (h : BsOk m n Bs) {N : List Nat} {s : List (Int × Int)} (hs : s.length = m) {i : Nat} (hi : i < n) {x4 : Option D} : l_hull_of_1 [some (.lst false (Bs.map bF)), some (.lst false (N.map nI)), some (.lst true (s.map spD)), some (.int (i : Int)), none] = .nx [some (.lst false (Bs.map bF)), some (.lst false (N.map nI)), some (.lst true ((hlW m s (bx Bs i)).map spD)), some (.int (i : Int)), none] := by
  have m4 := h.m4
  have e := lc_pickx (own := [4]) (g := gN 4) (t := tTrue) (m := eCall f_hull (aCons (eZ (Bn.z2 gIx (zVar 2) (zVar 4))) (aCons (eZ (Bn.z2 gIx (Bn.z2 gIx (zVar 0) (zVar 3)) (zVar 4))) aNil))) [some (.lst false (Bs.map bF)), some (.lst false (N.map nI)), some (.lst true (s.map spD)), some (.int (i : Int)), none] (fun k : Nat => D.int (0 + (k : Int))) (fun _ => true) (fun k => spD (mnI (ptN s k).1 (ptN (bx Bs i) k).1, mxI (ptN s k).2 (ptN (bx Bs i) k).2)) (List.range m) [] (by rw [List.length_nil, List.length_range]; omega) fun k hk => by
    have hk : k < m := List.mem_range.mp hk
    refine ⟨[some (.lst false (Bs.map bF)), some (.lst false (N.map nI)), some (.lst true (s.map spD)), some (.int (i : Int)), some (.int (0 + (k : Int)))], [some (.lst false (Bs.map bF)), some (.lst false (N.map nI)), some (.lst true (s.map spD)), some (.int (i : Int)), some (.int (0 + (k : Int)))], rfl, rfl, rfl, fun _ => ⟨[some (.lst false (Bs.map bF)), some (.lst false (N.map nI)), some (.lst true (s.map spD)), some (.int (i : Int)), some (.int (0 + (k : Int)))], ?_, rfl⟩⟩
    rw [Int.zero_add]
    have i1 := ix_sp (l := s) (k := k) (by omega) true
    have i2 := ix_bs h hi false
    have i3 : gIx (bF (bx Bs i)) (.int (k : Int)) = _ := ix_sp (l := bx Bs i) (k := k) (by rw [(h.b i hi).l]; exact hk) false
    have eh := hull_one (ptN s k) (ptN (bx Bs i) k)
    generalize spD (mnI (ptN s k).1 (ptN (bx Bs i) k).1, mxI (ptN s k).2 (ptN (bx Bs i) k).2) = R at *
    generalize bF (bx Bs i) = BI at *
    generalize Bs.map bF = BS at *
    generalize N.map nI = NN at *
    generalize s.map spD = SS at *
    generalize (i : Int) = ii at *
    generalize (k : Int) = kk at *
    generalize (ptN s k).1 = a1 at *
    generalize (ptN s k).2 = a2 at *
    generalize (ptN (bx Bs i) k).1 = a3 at *
    generalize (ptN (bx Bs i) k).2 = a4 at *
    simp_arith only [i1, i2, i3, eh]
  rw [List.nil_append, List.filter_eq_self.mpr (fun _ _ => rfl)] at e
  have em : (hlW m s (bx Bs i)).map spD = (List.range m).map fun k => spD (mnI (ptN s k).1 (ptN (bx Bs i) k).1, mxI (ptN s k).2 (ptN (bx Bs i) k).2) := by unfold hlW; rw [List.map_map]; rfl
  rw [← em] at e
  have lS : gLen [.lst true (s.map spD)] = some (.int (m : Int)) := by rw [vLenL, List.length_map, hs]
  have er : iR1 (aCons (eZ (zC' gLen (zaCons (zVar 2) zaNil))) aNil) [some (.lst false (Bs.map bF)), some (.lst false (N.map nI)), some (.lst true (s.map spD)), some (.int (i : Int)), none] = .ok (rangeD 0 m) [some (.lst false (Bs.map bF)), some (.lst false (N.map nI)), some (.lst true (s.map spD)), some (.int (i : Int)), none] := by
    refine x_range (N := (m : Int)) ?_ (by omega) (by omega) (by omega)
    generalize Bs.map bF = BS at *
    generalize N.map nI = NN at *
    generalize s.map spD = SS at *
    simp_arith only [lS]
  have ec : c_hull_of_1 [some (.lst false (Bs.map bF)), some (.lst false (N.map nI)), some (.lst true (s.map spD)), some (.int (i : Int)), none] = .ok (.lst true ((hlW m s (bx Bs i)).map spD)) [some (.lst false (Bs.map bF)), some (.lst false (N.map nI)), some (.lst true (s.map spD)), some (.int (i : Int)), none] := by
    unfold c_hull_of_1
    rw [x_lc, er, x_b1]
    show lcE (lcL [4] (gN 4) tTrue _ ((List.range m).map fun k : Nat => D.int (0 + (k : Int))) [] [some (.lst false (Bs.map bF)), some (.lst false (N.map nI)), some (.lst true (s.map spD)), some (.int (i : Int)), none]) = _
    rw [e]; rfl
  unfold l_hull_of_1
  exact x_asg_ok ec rfl
theorem hull_loop (h : BsOk m n Bs) {N0 : List Nat} : ∀ (N : List Nat) (s : List (Int × Int)) (x3 : Option D), (∀ i ∈ N, i < n) → s.length = m → ∃ y3, forL (gN 3) l_hull_of_1 (N.map nI) [some (.lst false (Bs.map bF)), some (.lst false (N0.map nI)), some (.lst true (s.map spD)), x3, none] = .nx [some (.lst false (Bs.map bF)), some (.lst false (N0.map nI)), some (.lst true ((N.foldl (fun s i => hlW m s (bx Bs i)) s).map spD)), y3, none]
  | [], s, x3, _, _ => ⟨x3, rfl⟩
  | i :: N, s, x3, hN, hs => by
    have st := hull_step h (N := N0) hs (hN i List.mem_cons_self) (x4 := none)
    obtain ⟨y3, ih⟩ := hull_loop h (N0 := N0) N (hlW m s (bx Bs i)) (some (.int (i : Int))) (fun j hj => hN j (List.mem_cons_of_mem _ hj)) (by unfold hlW; rw [List.length_map, List.length_range])
    refine ⟨y3, ?_⟩
    have gg : gN 3 (nI i) [some (.lst false (Bs.map bF)), some (.lst false (N0.map nI)), some (.lst true (s.map spD)), x3, none] = some [some (.lst false (Bs.map bF)), some (.lst false (N0.map nI)), some (.lst true (s.map spD)), some (.int (i : Int)), none] := rfl
    rw [List.map_cons, x_fo1, gg, x_fo2, st, x_fo3]
    exact ih
theorem hull_ok (h : BsOk m n Bs) {N : List Nat} (hN : ∀ i ∈ N, i < n) (hne : N ≠ []) : f_hull_of [.lst false (Bs.map bF), .lst false (N.map nI)] = .ok (.lst true ((endsW m Bs N).map spD)) := by
  obtain ⟨i, r, rfl⟩ : ∃ i r, N = i :: r := by
    cases N with
    | nil => exact absurd rfl hne
    | cons i r => exact ⟨i, r, rfl⟩
  have hi := hN i List.mem_cons_self
  obtain ⟨y3, hl⟩ := hull_loop h (N0 := i :: r) (i :: r) (bx Bs i) none hN (h.b i hi).l
  rw [hull_ends m (h.b i hi).l] at hl
  have fN := fz_nI (i :: r)
  have w : w_hull_of_1 [some (.lst false (Bs.map bF)), some (.lst false ((i :: r).map nI)), some (.lst true ((bx Bs i).map spD)), none, none] = .nx [some (.lst false (Bs.map bF)), some (.lst false ((i :: r).map nI)), some (.lst true ((endsW m Bs (i :: r)).map spD)), y3, none] := by
    unfold w_hull_of_1
    rw [x_for, show iL (eVar 1) [some (.lst false (Bs.map bF)), some (.lst false ((i :: r).map nI)), some (.lst true ((bx Bs i).map spD)), none, none] = .ok ((i :: r).map nI) [some (.lst false (Bs.map bF)), some (.lst false ((i :: r).map nI)), some (.lst true ((bx Bs i).map spD)), none, none] by
      generalize (i :: r).map nI = NN at *
      simp_arith only [fN], x_s1]
    exact hl
  have i0 : gIx (.lst false ((i :: r).map nI)) (.int 0) = some (.int (i : Int)) := vIxL_of (k := 0) rfl rfl
  have ib : gIx (.lst false (Bs.map bF)) (.int (i : Int)) = some (.lst false ((bx Bs i).map spD)) := ix_bs h hi false
  have fb := fz_sp (bx Bs i)
  have s0 : (sAsg (eLstOf (aCons (eZ (Bn.z2 gIx (zVar 0) (Bn.z2 gIx (zVar 1) (zC (.int 0))))) aNil)) (gN 2)) [some (.lst false (Bs.map bF)), some (.lst false ((i :: r).map nI)), none, none, none] = .nx [some (.lst false (Bs.map bF)), some (.lst false ((i :: r).map nI)), some (.lst true ((bx Bs i).map spD)), none, none] := by
    generalize (i :: r).map nI = NN at *
    generalize Bs.map bF = BS at *
    generalize (bx Bs i).map spD = BB at *
    generalize (i : Int) = ii at *
    simp_arith only [i0, ib, fb]
  have k : m_hull_of [some (.lst false (Bs.map bF)), some (.lst false ((i :: r).map nI)), none, none, none] = .rt (.lst true ((endsW m Bs (i :: r)).map spD)) [some (.lst false (Bs.map bF)), some (.lst false ((i :: r).map nI)), none, y3, none] := x_seq_ok s0 (x_seq_ok w rfl)
  exact (cF_ok (b := m_hull_of) (n := 2) (N := 5) (ds := [.lst false (Bs.map bF), .lst false ((i :: r).map nI)]) rfl rfl k).trans rfl
/-! ### the islands -/
def isD (m : Nat) (Bs : List (List (Int × Int))) (f : Nat) : D := .tup [.lst false ((compW Bs f).map nI), .lst false ((endsW m Bs (compW Bs f)).map spD)]
def leasts (Bs : List (List (Int × Int))) (a : Nat) : List Nat := (List.range a).filter fun k => mk Bs k == k
theorem memK_put (k j : L2.Key) (ks : List L2.Key) : memK j (dputK ks k) = (memK j ks || decide (k = j)) := by
  unfold dputK
  by_cases c : memK k ks = true
  · rw [if_pos c]
    by_cases e : k = j
    · subst e; rw [c]; rfl
    · rw [decide_eq_false e, Bool.or_false]
  · rw [if_neg c]
    unfold memK
    rw [List.any_append, List.any_cons, List.any_nil, Bool.or_false]
theorem is_put {X Y : D} {ks : List L2.Key} {xs : List D} {f k : Int} {x4 : Option D} (hl : ks.length < 900000) : l_islands_1 [some X, some Y, some (.dct true ks xs), some (.int f), x4, some (.int k)] = .nx [some X, some Y, some (.dct true (dputK ks (.inl k)) (dputX ks xs (.inl k) (.bl true))), some (.int f), x4, some (.int k)] := by
  show (if isFz (.bl true) = true ∧ ks.length < 1000000 then _ else SR.bad) = _
  rw [if_pos ⟨rfl, by omega⟩]
  rfl
theorem is_in {X Y : D} {f : Int} {x4 : Option D} : ∀ (N : List Nat) (ks : List L2.Key) (xs : List D) (x5 : Option D), ks.length + N.length < 900000 → ∃ ks' xs' y5, forL (gN 5) l_islands_1 (N.map nI) [some X, some Y, some (.dct true ks xs), some (.int f), x4, x5] = .nx [some X, some Y, some (.dct true ks' xs'), some (.int f), x4, y5] ∧ ks'.length ≤ ks.length + N.length ∧ ∀ j : Nat, memK (.inl (j : Int)) ks' = (memK (.inl (j : Int)) ks || N.contains j)
  | [], ks, xs, x5, _ => ⟨ks, xs, x5, rfl, Nat.le_refl _, fun j => by simp⟩
  | k :: N, ks, xs, x5, hl => by
    rw [List.length_cons] at hl
    have st := is_put (X := X) (Y := Y) (ks := ks) (xs := xs) (f := f) (k := (k : Int)) (x4 := x4) (by omega)
    have dl : (dputK ks (.inl (k : Int))).length ≤ ks.length + 1 := by
      unfold dputK
      split
      · omega
      · rw [List.length_append]; exact Nat.le_refl _
    obtain ⟨ks', xs', y5, e, l', hm⟩ := is_in (X := X) (Y := Y) (f := f) (x4 := x4) N (dputK ks (.inl (k : Int))) (dputX ks xs (.inl (k : Int)) (.bl true)) (some (.int (k : Int))) (by omega)
    refine ⟨ks', xs', y5, ?_, by rw [List.length_cons]; omega, fun j => ?_⟩
    · rw [List.map_cons, x_fo1]
      show forB (l_islands_1 [some X, some Y, some (.dct true ks xs), some (.int f), x4, some (.int (k : Int))]) _ = _
      rw [st]
      exact e
    · rw [hm j, memK_put, List.contains_cons, Bool.or_assoc]
      congr 1
      have : decide ((Sum.inl (k : Int) : L2.Key) = Sum.inl (j : Int)) = (j == k) := by
        by_cases e : j = k
        · subst e; simp
        · rw [decide_eq_false (fun z => e (by injection z with z; omega))]
          exact (beq_eq_false_iff_ne.mpr e).symm
      rw [this]
theorem is_skip {X Y : D} {ks : List L2.Key} {xs : List D} {f : Int} {x4 x5 : Option D} (h : memK (.inl f) ks = true) : l_islands_2 [some X, some Y, some (.dct true ks xs), some (.int f), x4, x5] = .ct [some X, some Y, some (.dct true ks xs), some (.int f), x4, x5] := by
  have e : gDIn false (.int f) (.dct true ks xs) = some (.bl true) := by
    show some (D.bl (if false = true then _ else memK (.inl f) ks)) = _
    rw [if_neg (by decide), h]
  unfold l_islands_2
  simp_arith only [e]
theorem is_take {BS acc NN EE : List D} {ks ks' : List L2.Key} {xs xs' : List D} {f : Int} {x4 x5 y5 : Option D} {fg fh : List D → CR} {ww : MS} (qg : f_grown_from = fg) (qh : f_hull_of = fh) (qw : w_islands_1 = ww) (h : memK (.inl f) ks = false) (eg : fg [.lst false BS, .int f] = .ok (.lst true NN)) (fN : freezeL NN = NN) (ew : ww [some (.lst false BS), some (.lst true acc), some (.dct true ks xs), some (.int f), some (.lst true NN), x5] = .nx [some (.lst false BS), some (.lst true acc), some (.dct true ks' xs'), some (.int f), some (.lst false NN), y5]) (eh : fh [.lst false BS, .lst false NN] = .ok (.lst true EE)) (fE : freezeL EE = EE) (hl : acc.length < 1000000) : l_islands_2 [some (.lst false BS), some (.lst true acc), some (.dct true ks xs), some (.int f), x4, x5] = .nx [some (.lst false BS), some (.lst true (acc ++ [.tup [.lst false NN, .lst false EE]])), some (.dct true ks' xs'), some (.int f), some (.lst false NN), y5] := by
  have e : gDIn false (.int f) (.dct true ks xs) = some (.bl false) := by
    show some (D.bl (if false = true then _ else memK (.inl f) ks)) = _
    rw [if_neg (by decide), h]
  unfold l_islands_2
  rw [qg, qh, qw]; clear qg qh qw
  simp_arith only [e, eg, fN, ew, eh, fE, hl]
theorem leasts_succ (Bs : List (List (Int × Int))) (a : Nat) : leasts Bs (a + 1) = leasts Bs a ++ if mk Bs a == a then [a] else [] := by
  unfold leasts
  rw [List.range_succ, List.filter_append]
  congr 1
  by_cases h : (mk Bs a == a) = true
  · rw [if_pos h, List.filter_cons, if_pos h]; rfl
  · rw [if_neg h, List.filter_cons, if_neg h]; rfl
theorem comp_lt (h : BsOk m n Bs) (f : Nat) : ∀ i ∈ compW Bs f, i < n := fun i hi => by
  have := List.mem_range.mp (List.mem_filter.mp hi).1
  rw [h.l] at this; exact this
theorem comp_len (h : BsOk m n Bs) (f : Nat) : (compW Bs f).length ≤ 63 := by
  have h1 : (compW Bs f).length ≤ (List.range Bs.length).length := List.length_filter_le _ _
  rw [List.length_range, h.l] at h1
  have := h.n63
  omega
theorem is_loop (h : BsOk m n Bs) : ∀ (r a : Nat) (ks : List L2.Key) (xs : List D) (x3 x4 x5 : Option D), a + r = n → ks.length ≤ 64 * a → (∀ k : Nat, k < n → memK (.inl (k : Int)) ks = decide (mk Bs k < a)) → ∃ ks' xs' y3 y4 y5, forL (gN 3) l_islands_2 (rangeD a r) [some (.lst false (Bs.map bF)), some (.lst true ((leasts Bs a).map (isD m Bs))), some (.dct true ks xs), x3, x4, x5] = .nx [some (.lst false (Bs.map bF)), some (.lst true ((leasts Bs n).map (isD m Bs))), some (.dct true ks' xs'), y3, y4, y5]
  | 0, a, ks, xs, x3, x4, x5, ha, _, _ => ⟨ks, xs, x3, x4, x5, by
    have : a = n := by omega
    subst this; rfl⟩
  | r + 1, a, ks, xs, x3, x4, x5, ha, hl, hm => by
    have lab := lab_ok h
    have n63 := h.n63
    have ml := (lab.le a (by omega)).1
    have mm := (lab.le a (by omega)).2
    rw [rangeD_succ, x_fo1]
    show ∃ ks' xs' y3 y4 y5, forB (l_islands_2 [some (.lst false (Bs.map bF)), some (.lst true ((leasts Bs a).map (isD m Bs))), some (.dct true ks xs), some (.int (a : Int)), x4, x5]) _ = _
    by_cases c : mk Bs a = a
    · have c2 : (mk Bs a == a) = true := by rw [c]; simp
      have m0 : memK (.inl (a : Int)) ks = false := by rw [hm a (by omega)]; exact decide_eq_false (by omega)
      have cl := comp_len h a
      obtain ⟨ks', xs', y5, e, l', hm'⟩ := is_in (X := .lst false (Bs.map bF)) (Y := .lst true ((leasts Bs a).map (isD m Bs))) (f := (a : Int)) (x4 := some (.lst false ((compW Bs a).map nI))) (compW Bs a) ks xs x5 (by omega)
      have fN := fz_nI (compW Bs a)
      have ew : w_islands_1 [some (.lst false (Bs.map bF)), some (.lst true ((leasts Bs a).map (isD m Bs))), some (.dct true ks xs), some (.int (a : Int)), some (.lst true ((compW Bs a).map nI)), x5] = .nx [some (.lst false (Bs.map bF)), some (.lst true ((leasts Bs a).map (isD m Bs))), some (.dct true ks' xs'), some (.int (a : Int)), some (.lst false ((compW Bs a).map nI)), y5] := by
        unfold w_islands_1
        rw [x_for, show iL (eVar 4) [some (.lst false (Bs.map bF)), some (.lst true ((leasts Bs a).map (isD m Bs))), some (.dct true ks xs), some (.int (a : Int)), some (.lst true ((compW Bs a).map nI)), x5] = .ok ((compW Bs a).map nI) [some (.lst false (Bs.map bF)), some (.lst true ((leasts Bs a).map (isD m Bs))), some (.dct true ks xs), some (.int (a : Int)), some (.lst false ((compW Bs a).map nI)), x5] by
          generalize (compW Bs a).map nI = NN at *
          generalize (leasts Bs a).map (isD m Bs) = LL at *
          generalize Bs.map bF = BS at *
          simp_arith only [fN], x_s1]
        exact e
      have inA : a ∈ compW Bs a := List.mem_filter.mpr ⟨List.mem_range.mpr (by rw [h.l]; omega), c2⟩
      have ll : ((leasts Bs a).map (isD m Bs)).length < 1000000 := by
        have : (leasts Bs a).length ≤ (List.range a).length := List.length_filter_le _ _
        rw [List.length_range] at this
        rw [List.length_map]; omega
      have st := is_take (x4 := x4) rfl rfl rfl m0 (grown_ok h (by omega) c) fN ew (hull_ok h (comp_lt h a) (fun z => by rw [z] at inA; cases inA)) (fz_sp _) ll
      have la : (leasts Bs (a + 1)).map (isD m Bs) = (leasts Bs a).map (isD m Bs) ++ [.tup [.lst false ((compW Bs a).map nI), .lst false ((endsW m Bs (compW Bs a)).map spD)]] := by
        rw [leasts_succ, if_pos c2, List.map_append]; rfl
      obtain ⟨ks2, xs2, y3, y4, z5, ih⟩ := is_loop h r (a + 1) ks' xs' (some (.int (a : Int))) (some (.lst false ((compW Bs a).map nI))) y5 (by omega) (by omega) fun k hk => by
        rw [hm' k, hm k hk]
        have hin : (compW Bs a).contains k = decide (mk Bs k = a) := by
          rw [Bool.eq_iff_iff, List.contains_iff_mem, decide_eq_true_eq]
          unfold compW
          rw [List.mem_filter, List.mem_range, h.l]
          constructor
          · rintro ⟨_, q⟩; simpa using q
          · intro q; exact ⟨hk, by rw [q]; simp⟩
        rw [hin, Bool.eq_iff_iff, Bool.or_eq_true, decide_eq_true_eq, decide_eq_true_eq, decide_eq_true_eq]
        omega
      refine ⟨ks2, xs2, y3, y4, z5, ?_⟩
      rw [st]
      rw [la] at ih
      exact ih
    · have lt : mk Bs a < a := by omega
      have m1 : memK (.inl (a : Int)) ks = true := by rw [hm a (by omega)]; exact decide_eq_true lt
      have st := is_skip (X := .lst false (Bs.map bF)) (Y := .lst true ((leasts Bs a).map (isD m Bs))) (xs := xs) (x4 := x4) (x5 := x5) m1
      have la : leasts Bs (a + 1) = leasts Bs a := by
        rw [leasts_succ, if_neg (by simpa using c), List.append_nil]
      obtain ⟨ks2, xs2, y3, y4, z5, ih⟩ := is_loop h r (a + 1) ks xs (some (.int (a : Int))) x4 x5 (by omega) (by omega) fun k hk => by
        rw [hm k hk]
        have : ¬ mk Bs k = a := fun z => by
          have := (lab.le k hk).2
          rw [z] at this
          exact c this
        exact decide_eq_decide.mpr (by omega)
      refine ⟨ks2, xs2, y3, y4, z5, ?_⟩
      rw [st]
      rw [la] at ih
      exact ih
theorem islands_ok (h : BsOk m n Bs) : f_islands [.lst false (Bs.map bF)] = .ok (.lst true ((leasts Bs n).map (isD m Bs))) := by
  have n63 := h.n63
  obtain ⟨ks', xs', y3, y4, y5, e⟩ := is_loop h n 0 [] [] none none none (by omega) (Nat.le_refl _) fun k _ => by
    rw [decide_eq_false (by omega)]; rfl
  have e : forL (gN 3) l_islands_2 (rangeD 0 n) [some (.lst false (Bs.map bF)), some (.lst true []), some (.dct true [] []), none, none, none] = _ := e
  have lB : gLen [.lst false (Bs.map bF)] = some (.int (n : Int)) := by rw [vLenL, List.length_map, h.l]
  have w : w_islands_2 [some (.lst false (Bs.map bF)), some (.lst true []), some (.dct true [] []), none, none, none] = .nx [some (.lst false (Bs.map bF)), some (.lst true ((leasts Bs n).map (isD m Bs))), some (.dct true ks' xs'), y3, y4, y5] := by
    unfold w_islands_2
    rw [x_for_range (N := (n : Int)) (n := n) (τ1 := [some (.lst false (Bs.map bF)), some (.lst true []), some (.dct true [] []), none, none, none]) ?_ (by omega) (by omega) (by omega)]
    · exact e
    · generalize Bs.map bF = BS at *
      simp_arith only [lB]
  have k : m_islands [some (.lst false (Bs.map bF)), none, none, none, none, none] = .rt (.lst true ((leasts Bs n).map (isD m Bs))) [some (.lst false (Bs.map bF)), none, some (.dct true ks' xs'), y3, y4, y5] := x_seq_ok (τ1 := [some (.lst false (Bs.map bF)), some (.lst true []), none, none, none, none]) rfl (x_seq_ok (τ1 := [some (.lst false (Bs.map bF)), some (.lst true []), some (.dct true [] []), none, none, none]) rfl (x_seq_ok w rfl))
  exact (cF_ok (b := m_islands) (n := 1) (N := 6) (ds := [.lst false (Bs.map bF)]) rfl rfl k).trans rfl
end

/-! ### marks, by the law -/
section
variable {n m : Nat} {Bs : List (List (Int × Int))}
theorem min_nats : ∀ (x : Nat) (l : List Nat), minI (x : Int) (l.map fun k : Nat => (k : Int)) = ((leastW (x :: l) : Nat) : Int)
  | x, [] => rfl
  | x, y :: l => by
    show minI (if (y : Int) < (x : Int) then (y : Int) else (x : Int)) (l.map fun k : Nat => (k : Int)) = ((min x (leastW (y :: l)) : Nat) : Int)
    have key : ∀ (a b : Nat) (l : List Nat), min a (leastW (b :: l)) = leastW (min a b :: l) := fun a b l => by
      cases l with
      | nil => rfl
      | cons c l => show min a (min b _) = min (min a b) _; rw [Nat.min_assoc]
    rw [key]
    by_cases c : y < x
    · rw [if_pos (by omega), min_nats y l, Nat.min_eq_right (by omega)]
    · rw [if_neg (by omega), min_nats x l, Nat.min_eq_left (by omega)]
theorem gmin_nats {l : List Nat} (h : l ≠ []) (b : Bool) : gMinL [.lst b (l.map nI)] = some (.int ((leastW l : Nat) : Int)) := by
  cases l with
  | nil => exact absurd rfl h
  | cons x l =>
    show (match (some ((x :: l).map nI)).bind intsOf with | some (m :: r) => some (D.int (minI m r)) | _ => none) = _
    rw [Option.bind_some, ints_nats]
    show some (D.int (minI (x : Int) (l.map fun k : Nat => (k : Int)))) = _
    rw [min_nats]
def mkA (Bs : List (List (Int × Int))) (a : Nat) : List D := (List.range a).map fun k => nI (marksF (TT Bs) a k)
theorem mkA_len (Bs : List (List (Int × Int))) (a : Nat) : (mkA Bs a).length = a := by unfold mkA; rw [List.length_map, List.length_range]
theorem mkA_fz (Bs : List (List (Int × Int))) (a : Nat) : freezeL (mkA Bs a) = mkA Bs a := fz_map (fun _ => rfl) _
theorem mk_run {BS MK MI P2 NX : List D} {a l : Int} {B : D} {x4 x6 : Option D} {c1 c2 : ME} (q1 : c__law_marks_1 = c1) (q2 : c__law_marks_2 = c2) (e1 : c1 [some (.lst false BS), some (.lst true MK), some (.int a), some B, x4, none, x6, none] = .ok (.lst true MI) [some (.lst false BS), some (.lst true MK), some (.int a), some B, x4, none, x6, none]) (fM : freezeL MI = MI) (hl1 : MI.length ≤ 1000) (em : gMinL [.lst true (MI ++ [.int a])] = some (.int l)) (e2 : c2 [some (.lst false BS), some (.lst true MK), some (.int a), some B, some (.lst true (MI ++ [.int a])), none, some (.int l), none] = .ok (.lst true P2) [some (.lst false BS), some (.lst false MK), some (.int a), some B, some (.lst true (MI ++ [.int a])), none, some (.int l), none]) (fP : freezeL P2 = P2) (hl2 : P2.length ≤ 1000) (hn : P2 ++ [.int l] = NX) : l__law_marks_1 [some (.lst false BS), some (.lst true MK), some (.int a), some B, x4, none, x6, none] = .nx [some (.lst false BS), some (.lst true NX), some (.int a), some B, some (.lst true (MI ++ [.int a])), none, some (.int l), none] := by
  have v1 : catD (.lst false MI) (.lst false [.int a]) = some (.lst true (MI ++ [.int a])) := vCat (by show MI.length + 1 ≤ _; omega)
  have v2 : catD (.lst false P2) (.lst false [.int l]) = some (.lst true (P2 ++ [.int l])) := vCat (by show P2.length + 1 ≤ _; omega)
  unfold l__law_marks_1
  rw [q1, q2]; clear q1 q2
  rw [← hn]
  simp_arith only [e1, fM, v1, em, e2, fP, v2]
theorem mk_tst {BS MK aa kk BA BK : D} {x4 x6 : Option D} {t : Bool} {ft : List D → CR} (qt : f__law_touch = ft) (ib : gIx BS kk = some BK) (z1 : isFz BK = true) (z2 : isFz BA = true) (f1 : freeze BK = BK) (f2 : freeze BA = BA) (et : ft [BK, BA] = .ok (.bl t)) : tE (eCall f__law_touch (aCons (eZ (Bn.z2 gIx (zVar 0) (zVar 5))) (aCons (eVar 3) aNil))) [some BS, some MK, some aa, some BA, x4, some kk, x6, none] = .ok t [some BS, some MK, some aa, some BA, x4, some kk, x6, none] := by
  rw [qt]; clear qt
  simp_arith only [ib, et, z1, z2, f1, f2]
theorem mk_step (h : BsOk m n Bs) {a : Nat} (ha : a < n) (x4 x6 : Option D) : ∃ y4 y6, l__law_marks_1 [some (.lst false (Bs.map bF)), some (.lst true (mkA Bs a)), some (.int (a : Int)), some (bF (bx Bs a)), x4, none, x6, none] = .nx [some (.lst false (Bs.map bF)), some (.lst true (mkA Bs (a + 1))), some (.int (a : Int)), some (bF (bx Bs a)), y4, none, y6, none] := by
  have n63 := h.n63
  have ix := fun {k : Nat} (hk : k < a) => (show gIx (.lst true (mkA Bs a)) (.int (k : Int)) = some (nI (marksF (TT Bs) a k)) from vIxL_of (k := k) rfl (by unfold mkA; rw [List.getElem?_map, List.getElem?_range hk]; rfl))
  have f1 := lc_pickx (own := [5]) (g := gN 5) (t := tE (eCall f__law_touch (aCons (eZ (Bn.z2 gIx (zVar 0) (zVar 5))) (aCons (eVar 3) aNil)))) (m := eZ (Bn.z2 gIx (zVar 1) (zVar 5))) [some (.lst false (Bs.map bF)), some (.lst true (mkA Bs a)), some (.int (a : Int)), some (bF (bx Bs a)), x4, none, x6, none] (fun k : Nat => D.int (0 + (k : Int))) (fun k => TT Bs k a) (fun k => nI (marksF (TT Bs) a k)) (List.range a) [] (by rw [List.length_nil, List.length_range]; omega) fun k hk => by
    have hk : k < a := List.mem_range.mp hk
    refine ⟨[some (.lst false (Bs.map bF)), some (.lst true (mkA Bs a)), some (.int (a : Int)), some (bF (bx Bs a)), x4, some (.int (0 + (k : Int))), x6, none], [some (.lst false (Bs.map bF)), some (.lst true (mkA Bs a)), some (.int (a : Int)), some (bF (bx Bs a)), x4, some (.int (0 + (k : Int))), x6, none], rfl, ?_, rfl, fun _ => ⟨[some (.lst false (Bs.map bF)), some (.lst true (mkA Bs a)), some (.int (a : Int)), some (bF (bx Bs a)), x4, some (.int (0 + (k : Int))), x6, none], ?_, rfl⟩⟩
    · have ib := ix_bs h (show k < n by omega) false
      have et := ltouch_ok (by have := h.m4; omega) (h.b k (by omega)) (h.b a ha)
      have et : f__law_touch [bF (bx Bs k), bF (bx Bs a)] = .ok (.bl (TT Bs k a)) := et
      rw [Int.zero_add]
      exact mk_tst rfl ib rfl rfl rfl rfl et
    · have i0 := ix hk
      rw [Int.zero_add]
      have z1 : isFz (nI (marksF (TT Bs) a k)) = true := rfl
      generalize nI (marksF (TT Bs) a k) = X at *
      generalize bF (bx Bs a) = BA at *
      generalize Bs.map bF = BS at *
      generalize mkA Bs a = MK at *
      generalize (k : Int) = kk at *
      generalize (a : Int) = aa at *
      simp_arith only [i0, z1]
  rw [List.nil_append] at f1
  obtain ⟨W, hW⟩ : ∃ W, ((List.range a).filter fun k => TT Bs k a).map (marksF (TT Bs) a) = W := ⟨_, rfl⟩
  have em : (((List.range a).filter fun k => TT Bs k a).map fun k => nI (marksF (TT Bs) a k)) = W.map nI := by rw [← hW, List.map_map]; rfl
  rw [em] at f1
  have wl : W.length ≤ 63 := by
    rw [← hW, List.length_map]
    have : ((List.range a).filter fun k => TT Bs k a).length ≤ (List.range a).length := List.length_filter_le _ _
    rw [List.length_range] at this
    omega
  have er : iR1 (aCons (eVar 2) aNil) [some (.lst false (Bs.map bF)), some (.lst true (mkA Bs a)), some (.int (a : Int)), some (bF (bx Bs a)), x4, none, x6, none] = .ok (rangeD 0 a) [some (.lst false (Bs.map bF)), some (.lst true (mkA Bs a)), some (.int (a : Int)), some (bF (bx Bs a)), x4, none, x6, none] := by
    refine x_range (N := (a : Int)) ?_ (by omega) (by omega) (by omega)
    generalize bF (bx Bs a) = BA at *
    generalize Bs.map bF = BS at *
    generalize mkA Bs a = MK at *
    simp_arith only [x_seq]
  have e1 : c__law_marks_1 [some (.lst false (Bs.map bF)), some (.lst true (mkA Bs a)), some (.int (a : Int)), some (bF (bx Bs a)), x4, none, x6, none] = .ok (.lst true (W.map nI)) [some (.lst false (Bs.map bF)), some (.lst true (mkA Bs a)), some (.int (a : Int)), some (bF (bx Bs a)), x4, none, x6, none] := by
    unfold c__law_marks_1
    rw [x_lc, er, x_b1]
    show lcE (lcL [5] (gN 5) _ _ ((List.range a).map fun k : Nat => D.int (0 + (k : Int))) [] [some (.lst false (Bs.map bF)), some (.lst true (mkA Bs a)), some (.int (a : Int)), some (bF (bx Bs a)), x4, none, x6, none]) = _
    rw [f1]; rfl
  have hmine : mineW (TT Bs) (marksF (TT Bs) a) a = W ++ [a] := by unfold mineW; rw [hW]
  have emin : gMinL [.lst true (W.map nI ++ [.int (a : Int)])] = some (.int ((leastW (W ++ [a]) : Nat) : Int)) := by
    have := gmin_nats (l := W ++ [a]) (by simp) true
    rw [List.map_append] at this
    exact this
  obtain ⟨l, hl⟩ : ∃ l, leastW (W ++ [a]) = l := ⟨_, rfl⟩
  rw [hl] at emin
  have fM := mkA_fz Bs a
  have f2 := lc_pickx (own := [7]) (g := gN 7) (t := tTrue) (m := eIf (tZ (Bn.z2 (gIn false) (zVar 7) (zVar 4))) (eVar 6) (eVar 7)) [some (.lst false (Bs.map bF)), some (.lst false (mkA Bs a)), some (.int (a : Int)), some (bF (bx Bs a)), some (.lst true (W.map nI ++ [.int (a : Int)])), none, some (.int (l : Int)), none] (fun k => nI (marksF (TT Bs) a k)) (fun _ => true) (fun k => nI (if (W ++ [a]).contains (marksF (TT Bs) a k) then l else marksF (TT Bs) a k)) (List.range a) [] (by rw [List.length_nil, List.length_range]; omega) fun k hk => by
    refine ⟨[some (.lst false (Bs.map bF)), some (.lst false (mkA Bs a)), some (.int (a : Int)), some (bF (bx Bs a)), some (.lst true (W.map nI ++ [.int (a : Int)])), none, some (.int (l : Int)), some (nI (marksF (TT Bs) a k))], [some (.lst false (Bs.map bF)), some (.lst false (mkA Bs a)), some (.int (a : Int)), some (bF (bx Bs a)), some (.lst true (W.map nI ++ [.int (a : Int)])), none, some (.int (l : Int)), some (nI (marksF (TT Bs) a k))], rfl, rfl, rfl, fun _ => ⟨[some (.lst false (Bs.map bF)), some (.lst false (mkA Bs a)), some (.int (a : Int)), some (bF (bx Bs a)), some (.lst true (W.map nI ++ [.int (a : Int)])), none, some (.int (l : Int)), some (nI (marksF (TT Bs) a k))], ?_, rfl⟩⟩
    have hin := in_nats (marksF (TT Bs) a k) (W ++ [a]) true false
    rw [List.map_append] at hin
    have hin : gIn false (nI (marksF (TT Bs) a k)) (.lst true (W.map nI ++ [.int (a : Int)])) = some (.bl ((W ++ [a]).contains (marksF (TT Bs) a k))) := hin
    have z1 : isFz (nI (marksF (TT Bs) a k)) = true := rfl
    have zf : freeze (nI (marksF (TT Bs) a k)) = nI (marksF (TT Bs) a k) := rfl
    cases hc : (W ++ [a]).contains (marksF (TT Bs) a k) with
    | true =>
      rw [hc] at hin
      rw [if_pos rfl]
      show _ = R.ok (D.int (l : Int)) _
      generalize nI (marksF (TT Bs) a k) = X at *
      generalize (W.map nI ++ [D.int (a : Int)]) = MI at *
      generalize bF (bx Bs a) = BA at *
      generalize Bs.map bF = BS at *
      generalize mkA Bs a = MK at *
      simp_arith only [hin, z1, zf]
    | false =>
      rw [hc] at hin
      rw [if_neg (by decide)]
      generalize nI (marksF (TT Bs) a k) = X at *
      generalize (W.map nI ++ [D.int (a : Int)]) = MI at *
      generalize bF (bx Bs a) = BA at *
      generalize Bs.map bF = BS at *
      generalize mkA Bs a = MK at *
      simp_arith only [hin, z1, zf]
  rw [List.nil_append, List.filter_eq_self.mpr (fun _ _ => rfl)] at f2
  have f2 : lcL [7] (gN 7) tTrue _ (mkA Bs a) [] _ = _ := f2
  have e2 : c__law_marks_2 [some (.lst false (Bs.map bF)), some (.lst true (mkA Bs a)), some (.int (a : Int)), some (bF (bx Bs a)), some (.lst true (W.map nI ++ [.int (a : Int)])), none, some (.int (l : Int)), none] = .ok (.lst true ((List.range a).map fun k => nI (if (W ++ [a]).contains (marksF (TT Bs) a k) then l else marksF (TT Bs) a k))) [some (.lst false (Bs.map bF)), some (.lst false (mkA Bs a)), some (.int (a : Int)), some (bF (bx Bs a)), some (.lst true (W.map nI ++ [.int (a : Int)])), none, some (.int (l : Int)), none] := by
    unfold c__law_marks_2
    generalize eIf (tZ (Bn.z2 (gIn false) (zVar 7) (zVar 4))) (eVar 6) (eVar 7) = mm at *
    generalize ((List.range a).map fun k => nI (if (W ++ [a]).contains (marksF (TT Bs) a k) then l else marksF (TT Bs) a k)) = Q at *
    generalize (W.map nI ++ [D.int (a : Int)]) = MI at *
    generalize bF (bx Bs a) = BA at *
    generalize Bs.map bF = BS at *
    generalize mkA Bs a = MK at *
    simp_arith only [fM, f2]
  have hnext : ((List.range a).map fun k => nI (if (W ++ [a]).contains (marksF (TT Bs) a k) then l else marksF (TT Bs) a k)) ++ [D.int (l : Int)] = mkA Bs (a + 1) := by
    have h1 : ((List.range a).map fun k => nI (if (W ++ [a]).contains (marksF (TT Bs) a k) then l else marksF (TT Bs) a k)) = (List.range a).map fun k => nI (marksF (TT Bs) (a + 1) k) := by
      refine List.map_congr_left fun k hk => ?_
      have hk : k < a := List.mem_range.mp hk
      have e : marksF (TT Bs) (a + 1) k = nextM (TT Bs) (marksF (TT Bs) a) a k := rfl
      have hne : ¬ k = a := by omega
      rw [e]
      unfold nextM
      rw [if_neg hne, hmine, hl]
    have h2 : nI (marksF (TT Bs) (a + 1) a) = .int (l : Int) := by
      have e : marksF (TT Bs) (a + 1) a = nextM (TT Bs) (marksF (TT Bs) a) a a := rfl
      rw [e]
      unfold nextM
      rw [if_pos rfl, hmine, hl]; rfl
    unfold mkA
    rw [List.range_succ, List.map_append, List.map_cons, List.map_nil, h1, h2]
  exact ⟨_, _, mk_run rfl rfl e1 (fz_nI W) (by rw [List.length_map]; omega) emin e2 (fz_map (fun _ => rfl) _) (by rw [List.length_map, List.length_range]; omega) hnext⟩
theorem mk_loop (h : BsOk m n Bs) : ∀ (r a : Nat) (x2 x3 x4 x6 : Option D), a + r = n → ∃ y2 y3 y4 y6, forL (gT 2 (gCons' (gN 2) (gCons' (gN 3) gNil'))) l__law_marks_1 (enumD a ((Bs.drop a).map bF)) [some (.lst false (Bs.map bF)), some (.lst true (mkA Bs a)), x2, x3, x4, none, x6, none] = .nx [some (.lst false (Bs.map bF)), some (.lst true (mkA Bs n)), y2, y3, y4, none, y6, none]
  | 0, a, x2, x3, x4, x6, ha => ⟨x2, x3, x4, x6, by
    have := h.l
    have ea : a = n := by omega
    subst ea
    rw [List.drop_eq_nil_of_le (by omega)]; rfl⟩
  | r + 1, a, x2, x3, x4, x6, ha => by
    have hl := h.l
    have hd : Bs.drop a = bx Bs a :: Bs.drop (a + 1) := by
      rw [List.drop_eq_getElem_cons (by omega)]
      unfold bx
      rw [List.getD_eq_getElem?_getD, List.getElem?_eq_getElem (by omega)]; rfl
    obtain ⟨y4, y6, st⟩ := mk_step h (a := a) (by omega) x4 x6
    obtain ⟨z2, z3, z4, z6, ih⟩ := mk_loop h r (a + 1) (some (.int (a : Int))) (some (bF (bx Bs a))) y4 y6 (by omega)
    refine ⟨z2, z3, z4, z6, ?_⟩
    rw [hd, List.map_cons]
    show forL _ _ (.tup [.int (a : Int), bF (bx Bs a)] :: enumD (a + 1) ((Bs.drop (a + 1)).map bF)) _ = _
    have gg : gT 2 (gCons' (gN 2) (gCons' (gN 3) gNil')) (.tup [.int (a : Int), bF (bx Bs a)]) [some (.lst false (Bs.map bF)), some (.lst true (mkA Bs a)), x2, x3, x4, none, x6, none] = some [some (.lst false (Bs.map bF)), some (.lst true (mkA Bs a)), some (.int (a : Int)), some (bF (bx Bs a)), x4, none, x6, none] := rfl
    rw [x_fo1, gg, x_fo2, st, x_fo3]
    exact ih
theorem fz_bs (Bs : List (List (Int × Int))) : freezeL (Bs.map bF) = Bs.map bF := fz_map (fun _ => rfl) Bs
theorem marks_run (h : BsOk m n Bs) : f__law_marks [.lst false (Bs.map bF)] = .ok (.lst true (mkA Bs n)) := by
  obtain ⟨y2, y3, y4, y6, e⟩ := mk_loop h n 0 none none none none (by omega)
  have e : forL (gT 2 (gCons' (gN 2) (gCons' (gN 3) gNil'))) l__law_marks_1 (enumD 0 (Bs.map bF)) [some (.lst false (Bs.map bF)), some (.lst true []), none, none, none, none, none, none] = _ := e
  have fB := fz_bs Bs
  have w : w__law_marks_1 [some (.lst false (Bs.map bF)), some (.lst true []), none, none, none, none, none, none] = .nx [some (.lst false (Bs.map bF)), some (.lst true (mkA Bs n)), y2, y3, y4, none, y6, none] := by
    unfold w__law_marks_1
    rw [x_for, show iE (aCons (eVar 0) aNil) [some (.lst false (Bs.map bF)), some (.lst true []), none, none, none, none, none, none] = .ok (enumD 0 (Bs.map bF)) [some (.lst false (Bs.map bF)), some (.lst true []), none, none, none, none, none, none] by
      generalize Bs.map bF = BS at *
      simp_arith only [fB], x_s1]
    exact e
  have k : m__law_marks [some (.lst false (Bs.map bF)), none, none, none, none, none, none, none] = .rt (.lst true (mkA Bs n)) [some (.lst false (Bs.map bF)), none, y2, y3, y4, none, y6, none] := x_seq_ok (τ1 := [some (.lst false (Bs.map bF)), some (.lst true []), none, none, none, none, none, none]) rfl (x_seq_ok w rfl)
  exact (cF_ok (b := m__law_marks) (n := 1) (N := 8) (ds := [.lst false (Bs.map bF)]) rfl rfl k).trans rfl
end
/-! ### what is due -/
section
variable {n m : Nat} {Bs : List (List (Int × Int))}
theorem min_map {α : Type} (f : α → Int) (x : α) (l : List α) (b : Bool) : gMinL [.lst b ((x :: l).map fun i => D.int (f i))] = some (.int (minI (f x) (l.map f))) := by
  have e : ((x :: l).map fun i => D.int (f i)) = ((x :: l).map f).map D.int := by rw [List.map_map]; rfl
  rw [e]
  show (match (some (((x :: l).map f).map D.int)).bind intsOf with | some (m :: r) => some (D.int (minI m r)) | _ => none) = _
  rw [Option.bind_some, ints_map]; rfl
theorem max_map {α : Type} (f : α → Int) (x : α) (l : List α) (b : Bool) : gMaxL [.lst b ((x :: l).map fun i => D.int (f i))] = some (.int (maxI (f x) (l.map f))) := by
  have e : ((x :: l).map fun i => D.int (f i)) = ((x :: l).map f).map D.int := by rw [List.map_map]; rfl
  rw [e]
  show (match (some (((x :: l).map f).map D.int)).bind intsOf with | some (m :: r) => some (D.int (maxI m r)) | _ => none) = _
  rw [Option.bind_some, ints_map]; rfl
theorem du_lc (h : BsOk m n Bs) {side : Int} {pj : Int × Int → Int} (hp : ∀ p : Int × Int, gIx (.tup [.int p.1, .int p.2]) (.int side) = some (.int (pj p))) {N : List Nat} (hN : ∀ i ∈ N, i < n) (hl : N.length ≤ 1000) {k : Nat} (hk : k < m) {DD : List D} {a : Int} (mN : Bool) (x7 x8 : Option D) :
    eLc [9] (iL (eVar 5)) (gN 9) tTrue (eZ (Bn.z2 gIx (Bn.z2 gIx (Bn.z2 gIx (zVar 0) (zVar 9)) (zVar 6)) (zC (.int side)))) [some (.lst false (Bs.map bF)), some (.int (m : Int)), some (.lst true (mkA Bs n)), some (.lst true DD), some (.int a), some (.lst mN (N.map nI)), some (.int (k : Int)), x7, x8, none] = .ok (.lst true (N.map fun i => D.int (pj (ptN (bx Bs i) k)))) [some (.lst false (Bs.map bF)), some (.int (m : Int)), some (.lst true (mkA Bs n)), some (.lst true DD), some (.int a), some (.lst false (N.map nI)), some (.int (k : Int)), x7, x8, none] := by
  have e := lc_pickx (own := [9]) (g := gN 9) (t := tTrue) (m := eZ (Bn.z2 gIx (Bn.z2 gIx (Bn.z2 gIx (zVar 0) (zVar 9)) (zVar 6)) (zC (.int side)))) [some (.lst false (Bs.map bF)), some (.int (m : Int)), some (.lst true (mkA Bs n)), some (.lst true DD), some (.int a), some (.lst false (N.map nI)), some (.int (k : Int)), x7, x8, none] nI (fun _ => true) (fun i => D.int (pj (ptN (bx Bs i) k))) N [] (by rw [List.length_nil]; omega) fun i hi => by
    refine ⟨[some (.lst false (Bs.map bF)), some (.int (m : Int)), some (.lst true (mkA Bs n)), some (.lst true DD), some (.int a), some (.lst false (N.map nI)), some (.int (k : Int)), x7, x8, some (nI i)], [some (.lst false (Bs.map bF)), some (.int (m : Int)), some (.lst true (mkA Bs n)), some (.lst true DD), some (.int a), some (.lst false (N.map nI)), some (.int (k : Int)), x7, x8, some (nI i)], rfl, rfl, rfl, fun _ => ⟨[some (.lst false (Bs.map bF)), some (.int (m : Int)), some (.lst true (mkA Bs n)), some (.lst true DD), some (.int a), some (.lst false (N.map nI)), some (.int (k : Int)), x7, x8, some (nI i)], ?_, rfl⟩⟩
    have i1 := ix_bs h (hN i hi) false
    have i2 : gIx (bF (bx Bs i)) (.int (k : Int)) = _ := ix_sp (l := bx Bs i) (k := k) (by rw [(h.b i (hN i hi)).l]; exact hk) false
    have i3 := hp (ptN (bx Bs i) k)
    have nn : nI i = .int (i : Int) := rfl
    rw [nn]
    generalize pj (ptN (bx Bs i) k) = R at *
    generalize (ptN (bx Bs i) k).1 = a3 at *
    generalize (ptN (bx Bs i) k).2 = a4 at *
    generalize bF (bx Bs i) = BI at *
    generalize Bs.map bF = BS at *
    generalize mkA Bs n = MK at *
    generalize N.map nI = NN at *
    generalize (i : Int) = ii at *
    generalize (k : Int) = kk at *
    generalize (m : Int) = mm at *
    simp_arith only [i1, i2, i3]
  rw [List.nil_append, List.filter_eq_self.mpr (fun _ _ => rfl)] at e
  have fN := fz_nI N
  generalize eZ (Bn.z2 gIx (Bn.z2 gIx (Bn.z2 gIx (zVar 0) (zVar 9)) (zVar 6)) (zC (.int side))) = ee at *
  generalize (N.map fun i => D.int (pj (ptN (bx Bs i) k))) = Q at *
  generalize N.map nI = NN at *
  generalize Bs.map bF = BS at *
  generalize mkA Bs n = MK at *
  cases mN with
  | true => simp_arith only [fN, e]
  | false => simp_arith only [fN, e]
theorem du_k {BS MK DD EE NN L1 L2 : List D} {mm a k lo hi : Int} {x8 : Option D} {mN : Bool} {c2 c3 : ME} (q2 : c__law_due_2 = c2) (q3 : c__law_due_3 = c3) (e2 : c2 [some (.lst false BS), some (.int mm), some (.lst true MK), some (.lst true DD), some (.int a), some (.lst mN NN), some (.int k), some (.lst true EE), x8, none] = .ok (.lst true L1) [some (.lst false BS), some (.int mm), some (.lst true MK), some (.lst true DD), some (.int a), some (.lst false NN), some (.int k), some (.lst true EE), x8, none]) (g1t : gMinL [.lst true L1] = some (.int lo)) (e3n : c3 [some (.lst false BS), some (.int mm), some (.lst true MK), some (.lst true DD), some (.int a), some (.lst false NN), some (.int k), some (.lst true EE), some (.int lo), none] = .ok (.lst true L2) [some (.lst false BS), some (.int mm), some (.lst true MK), some (.lst true DD), some (.int a), some (.lst false NN), some (.int k), some (.lst true EE), some (.int lo), none]) (g2 : gMaxL [.lst true L2] = some (.int hi)) (hl : EE.length < 1000000) : l__law_due_1 [some (.lst false BS), some (.int mm), some (.lst true MK), some (.lst true DD), some (.int a), some (.lst mN NN), some (.int k), some (.lst true EE), x8, none] = .nx [some (.lst false BS), some (.int mm), some (.lst true MK), some (.lst true DD), some (.int a), some (.lst false NN), some (.int k), some (.lst true (EE ++ [.tup [.int lo, .int hi]])), some (.int lo), none] := by
  unfold l__law_due_1
  rw [q2, q3]; clear q2 q3
  simp_arith only [e2, g1t, e3n, g2, hl]
theorem du_loop (h : BsOk m n Bs) {a : Nat} {DD : List D} {i : Nat} {r : List Nat} (hN : ∀ j ∈ i :: r, j < n) (hl : (i :: r).length ≤ 1000) : ∀ (q k : Nat) (x6 x8 : Option D) (mN : Bool), k + q = m → ∃ y6 y8 mz, forL (gN 6) l__law_due_1 (rangeD k q) [some (.lst false (Bs.map bF)), some (.int (m : Int)), some (.lst true (mkA Bs n)), some (.lst true DD), some (.int (a : Int)), some (.lst mN ((i :: r).map nI)), x6, some (.lst true (((List.range k).map fun k => endK Bs k (i :: r)).map spD)), x8, none] = .nx [some (.lst false (Bs.map bF)), some (.int (m : Int)), some (.lst true (mkA Bs n)), some (.lst true DD), some (.int (a : Int)), some (.lst mz ((i :: r).map nI)), y6, some (.lst true ((endsW m Bs (i :: r)).map spD)), y8, none]
  | 0, k, x6, x8, mN, hk => ⟨x6, x8, mN, by
    have : k = m := by omega
    subst this; rfl⟩
  | q + 1, k, x6, x8, mN, hk => by
    have m4 := h.m4
    have p0 : ∀ p : Int × Int, gIx (.tup [.int p.1, .int p.2]) (.int 0) = some (.int p.1) := fun p => rfl
    have p1 : ∀ p : Int × Int, gIx (.tup [.int p.1, .int p.2]) (.int 1) = some (.int p.2) := fun p => rfl
    have e2 := fun mN x7 x8 => du_lc h (pj := fun p => p.1) p0 hN hl (k := k) (by omega) (DD := DD) (a := (a : Int)) mN x7 x8
    have e3 := fun mN x7 x8 => du_lc h (pj := fun p => p.2) p1 hN hl (k := k) (by omega) (DD := DD) (a := (a : Int)) mN x7 x8
    have hE : ((List.range k).map fun k => endK Bs k (i :: r)).map spD ++ [.tup [.int (minI (ptN (bx Bs i) k).1 (r.map fun j => (ptN (bx Bs j) k).1)), .int (maxI (ptN (bx Bs i) k).2 (r.map fun j => (ptN (bx Bs j) k).2))]] = ((List.range (k + 1)).map fun k => endK Bs k (i :: r)).map spD := by
      rw [List.range_succ, List.map_append, List.map_append]; rfl
    have st := du_k (BS := Bs.map bF) (MK := mkA Bs n) (DD := DD) (EE := ((List.range k).map fun k => endK Bs k (i :: r)).map spD) (NN := (i :: r).map nI) (mm := (m : Int)) (a := (a : Int)) (k := (k : Int)) (x8 := x8) (mN := mN) rfl rfl (e2 mN _ x8) (min_map (fun j => (ptN (bx Bs j) k).1) i r true) (e3 false _ _) (max_map (fun j => (ptN (bx Bs j) k).2) i r true) (by rw [List.length_map, List.length_map, List.length_range]; omega)
    rw [hE] at st
    obtain ⟨y6, y8, mz, ih⟩ := du_loop h (a := a) (DD := DD) hN hl q (k + 1) (some (.int (k : Int))) (some (.int (minI (ptN (bx Bs i) k).1 (r.map fun j => (ptN (bx Bs j) k).1)))) false (by omega)
    refine ⟨y6, y8, mz, ?_⟩
    have gg : gN 6 (.int (k : Int)) [some (.lst false (Bs.map bF)), some (.int (m : Int)), some (.lst true (mkA Bs n)), some (.lst true DD), some (.int (a : Int)), some (.lst mN ((i :: r).map nI)), x6, some (.lst true (((List.range k).map fun k => endK Bs k (i :: r)).map spD)), x8, none] = some [some (.lst false (Bs.map bF)), some (.int (m : Int)), some (.lst true (mkA Bs n)), some (.lst true DD), some (.int (a : Int)), some (.lst mN ((i :: r).map nI)), some (.int (k : Int)), some (.lst true (((List.range k).map fun k => endK Bs k (i :: r)).map spD)), x8, none] := rfl
    rw [rangeD_succ, x_fo1, gg, x_fo2, st, x_fo3]
    exact ih
theorem dv_no {BS MK DD : List D} {mm a v : Int} {x5 x6 x7 x8 : Option D} (ix : gIx (.lst true MK) (.int a) = some (.int v)) (h : (v == a) = false) : l__law_due_2 [some (.lst false BS), some (.int mm), some (.lst true MK), some (.lst true DD), some (.int a), x5, x6, x7, x8, none] = .nx [some (.lst false BS), some (.int mm), some (.lst true MK), some (.lst true DD), some (.int a), x5, x6, x7, x8, none] := by
  unfold l__law_due_2
  generalize sSeq (sAsg c__law_due_1 (gN 5)) _ = body
  simp_arith only [ix, h]
theorem dv_yes {BS MK DD NN EE : List D} {mm a v : Int} {x5 x6 x7 x8 y6 y8 : Option D} {mz : Bool} {c1 : ME} {ww : MS} (q1 : c__law_due_1 = c1) (qw : w__law_due_1 = ww) (ix : gIx (.lst true MK) (.int a) = some (.int v)) (h : (v == a) = true) (e1 : c1 [some (.lst false BS), some (.int mm), some (.lst true MK), some (.lst true DD), some (.int a), x5, x6, x7, x8, none] = .ok (.lst true NN) [some (.lst false BS), some (.int mm), some (.lst true MK), some (.lst true DD), some (.int a), x5, none, x7, x8, none]) (ew : ww [some (.lst false BS), some (.int mm), some (.lst true MK), some (.lst true DD), some (.int a), some (.lst true NN), none, some (.lst true []), x8, none] = .nx [some (.lst false BS), some (.int mm), some (.lst true MK), some (.lst true DD), some (.int a), some (.lst mz NN), y6, some (.lst true EE), y8, none]) (fN : freezeL NN = NN) (fE : freezeL EE = EE) (hl : DD.length < 1000000) : l__law_due_2 [some (.lst false BS), some (.int mm), some (.lst true MK), some (.lst true DD), some (.int a), x5, x6, x7, x8, none] = .nx [some (.lst false BS), some (.int mm), some (.lst true MK), some (.lst true (DD ++ [.tup [.lst false NN, .lst false EE]])), some (.int a), some (.lst false NN), y6, some (.lst false EE), y8, none] := by
  unfold l__law_due_2
  rw [q1, qw]; clear q1 qw
  cases mz with
  | true => simp_arith only [ix, h, e1, ew, fN, fE, hl]
  | false => simp_arith only [ix, h, e1, ew, fN, fE, hl]
theorem dv_lc (h : BsOk m n Bs) {a : Nat} {DD : List D} {x5 x6 x7 x8 : Option D} : c__law_due_1 [some (.lst false (Bs.map bF)), some (.int (m : Int)), some (.lst true (mkA Bs n)), some (.lst true DD), some (.int (a : Int)), x5, x6, x7, x8, none] = .ok (.lst true ((compW Bs a).map nI)) [some (.lst false (Bs.map bF)), some (.int (m : Int)), some (.lst true (mkA Bs n)), some (.lst true DD), some (.int (a : Int)), x5, none, x7, x8, none] := by
  have n63 := h.n63
  have e := lc_pickx (own := [6]) (g := gN 6) (t := tZ (Bn.z2 gEq (Bn.z2 gIx (zVar 2) (zVar 6)) (zVar 4))) (m := eVar 6) [some (.lst false (Bs.map bF)), some (.int (m : Int)), some (.lst true (mkA Bs n)), some (.lst true DD), some (.int (a : Int)), x5, none, x7, x8, none] (fun k : Nat => D.int (0 + (k : Int))) (fun k => mk Bs k == a) nI (List.range n) [] (by rw [List.length_nil, List.length_range]; omega) fun k hk => by
    have hk : k < n := List.mem_range.mp hk
    refine ⟨[some (.lst false (Bs.map bF)), some (.int (m : Int)), some (.lst true (mkA Bs n)), some (.lst true DD), some (.int (a : Int)), x5, some (.int (0 + (k : Int))), x7, x8, none], [some (.lst false (Bs.map bF)), some (.int (m : Int)), some (.lst true (mkA Bs n)), some (.lst true DD), some (.int (a : Int)), x5, some (.int (0 + (k : Int))), x7, x8, none], rfl, ?_, rfl, fun _ => ⟨[some (.lst false (Bs.map bF)), some (.int (m : Int)), some (.lst true (mkA Bs n)), some (.lst true DD), some (.int (a : Int)), x5, some (.int (0 + (k : Int))), x7, x8, none], ?_, rfl⟩⟩
    · have ix : gIx (.lst true (mkA Bs n)) (.int (k : Int)) = some (.int ((mk Bs k : Nat) : Int)) := vIxL_of (k := k) rfl (by
        unfold mkA mk
        rw [List.getElem?_map, List.getElem?_range hk, h.l]; rfl)
      have q : (((mk Bs k : Nat) : Int) == (a : Int)) = (mk Bs k == a) := by
        rw [Bool.eq_iff_iff, beq_iff_eq, beq_iff_eq]; omega
      rw [Int.zero_add]
      generalize Bs.map bF = BS at *
      generalize mkA Bs n = MK at *
      generalize (k : Int) = kk at *
      generalize (m : Int) = mm at *
      simp_arith only [ix, q]
    · rw [Int.zero_add]
      show _ = R.ok (D.int (k : Int)) _
      generalize Bs.map bF = BS at *
      generalize mkA Bs n = MK at *
      generalize (k : Int) = kk at *
      generalize (m : Int) = mm at *
      simp_arith only [x_seq]
  rw [List.nil_append] at e
  have ec : (List.range n).filter (fun k => mk Bs k == a) = compW Bs a := by unfold compW; rw [h.l]
  rw [ec] at e
  have lB : gLen [.lst false (Bs.map bF)] = some (.int (n : Int)) := by rw [vLenL, List.length_map, h.l]
  have er : iR1 (aCons (eZ (zC' gLen (zaCons (zVar 0) zaNil))) aNil) [some (.lst false (Bs.map bF)), some (.int (m : Int)), some (.lst true (mkA Bs n)), some (.lst true DD), some (.int (a : Int)), x5, x6, x7, x8, none] = .ok (rangeD 0 n) [some (.lst false (Bs.map bF)), some (.int (m : Int)), some (.lst true (mkA Bs n)), some (.lst true DD), some (.int (a : Int)), x5, x6, x7, x8, none] := by
    refine x_range (N := (n : Int)) ?_ (by omega) (by omega) (by omega)
    generalize Bs.map bF = BS at *
    generalize mkA Bs n = MK at *
    generalize (m : Int) = mm at *
    simp_arith only [lB]
  unfold c__law_due_1
  rw [x_lc, er, x_b1]
  show lcE (lcL [6] (gN 6) _ _ ((List.range n).map fun k : Nat => D.int (0 + (k : Int))) [] [some (.lst false (Bs.map bF)), some (.int (m : Int)), some (.lst true (mkA Bs n)), some (.lst true DD), some (.int (a : Int)), x5, none, x7, x8, none]) = _
  rw [e]; rfl
theorem dv_loop (h : BsOk m n Bs) : ∀ (r a : Nat) (x4 x5 x6 x7 x8 : Option D), a + r = n → ∃ y4 y5 y6 y7 y8, forL (gN 4) l__law_due_2 (rangeD a r) [some (.lst false (Bs.map bF)), some (.int (m : Int)), some (.lst true (mkA Bs n)), some (.lst true ((leasts Bs a).map (isD m Bs))), x4, x5, x6, x7, x8, none] = .nx [some (.lst false (Bs.map bF)), some (.int (m : Int)), some (.lst true (mkA Bs n)), some (.lst true ((leasts Bs n).map (isD m Bs))), y4, y5, y6, y7, y8, none]
  | 0, a, x4, x5, x6, x7, x8, ha => ⟨x4, x5, x6, x7, x8, by
    have : a = n := by omega
    subst this; rfl⟩
  | r + 1, a, x4, x5, x6, x7, x8, ha => by
    have n63 := h.n63
    have m4 := h.m4
    have ix : gIx (.lst true (mkA Bs n)) (.int (a : Int)) = some (.int ((mk Bs a : Nat) : Int)) := vIxL_of (k := a) rfl (by
      unfold mkA mk
      rw [List.getElem?_map, List.getElem?_range (by omega), h.l]; rfl)
    have q : (((mk Bs a : Nat) : Int) == (a : Int)) = (mk Bs a == a) := by
      rw [Bool.eq_iff_iff, beq_iff_eq, beq_iff_eq]; omega
    have gg : gN 4 (.int (a : Int)) [some (.lst false (Bs.map bF)), some (.int (m : Int)), some (.lst true (mkA Bs n)), some (.lst true ((leasts Bs a).map (isD m Bs))), x4, x5, x6, x7, x8, none] = some [some (.lst false (Bs.map bF)), some (.int (m : Int)), some (.lst true (mkA Bs n)), some (.lst true ((leasts Bs a).map (isD m Bs))), some (.int (a : Int)), x5, x6, x7, x8, none] := rfl
    rw [rangeD_succ, x_fo1, gg, x_fo2]
    cases hc : (mk Bs a == a) with
    | false =>
      rw [hc] at q
      have st := dv_no (BS := Bs.map bF) (mm := (m : Int)) (DD := (leasts Bs a).map (isD m Bs)) (x5 := x5) (x6 := x6) (x7 := x7) (x8 := x8) ix q
      have la : leasts Bs (a + 1) = leasts Bs a := by rw [leasts_succ, if_neg (by rw [hc]; decide), List.append_nil]
      obtain ⟨y4, y5, y6, y7, y8, ih⟩ := dv_loop h r (a + 1) (some (.int (a : Int))) x5 x6 x7 x8 (by omega)
      rw [la] at ih
      refine ⟨y4, y5, y6, y7, y8, ?_⟩
      rw [st, x_fo3]
      exact ih
    | true =>
      rw [hc] at q
      have inA : a ∈ compW Bs a := List.mem_filter.mpr ⟨List.mem_range.mpr (by rw [h.l]; omega), hc⟩
      obtain ⟨i, t, hit⟩ : ∃ i t, compW Bs a = i :: t := by
        cases hq : compW Bs a with
        | nil => rw [hq] at inA; cases inA
        | cons i t => exact ⟨i, t, rfl⟩
      have clt := comp_lt h a
      have cl := comp_len h a
      rw [hit] at clt cl
      obtain ⟨y6, y8, mz, el⟩ := du_loop h (a := a) (DD := (leasts Bs a).map (isD m Bs)) clt (by omega) m 0 none x8 true (by omega)
      have el : forL (gN 6) l__law_due_1 (rangeD 0 m) [some (.lst false (Bs.map bF)), some (.int (m : Int)), some (.lst true (mkA Bs n)), some (.lst true ((leasts Bs a).map (isD m Bs))), some (.int (a : Int)), some (.lst true ((i :: t).map nI)), none, some (.lst true []), x8, none] = .nx [some (.lst false (Bs.map bF)), some (.int (m : Int)), some (.lst true (mkA Bs n)), some (.lst true ((leasts Bs a).map (isD m Bs))), some (.int (a : Int)), some (.lst mz ((i :: t).map nI)), y6, some (.lst true ((endsW m Bs (i :: t)).map spD)), y8, none] := el
      have ew : w__law_due_1 [some (.lst false (Bs.map bF)), some (.int (m : Int)), some (.lst true (mkA Bs n)), some (.lst true ((leasts Bs a).map (isD m Bs))), some (.int (a : Int)), some (.lst true ((i :: t).map nI)), none, some (.lst true []), x8, none] = .nx [some (.lst false (Bs.map bF)), some (.int (m : Int)), some (.lst true (mkA Bs n)), some (.lst true ((leasts Bs a).map (isD m Bs))), some (.int (a : Int)), some (.lst mz ((i :: t).map nI)), y6, some (.lst true ((endsW m Bs (i :: t)).map spD)), y8, none] := by
        unfold w__law_due_1
        rw [x_for_range (N := (m : Int)) (n := m) (τ1 := [some (.lst false (Bs.map bF)), some (.int (m : Int)), some (.lst true (mkA Bs n)), some (.lst true ((leasts Bs a).map (isD m Bs))), some (.int (a : Int)), some (.lst true ((i :: t).map nI)), none, some (.lst true []), x8, none]) ?_ (by omega) (by omega) (by omega)]
        · exact el
        · generalize Bs.map bF = BS at *
          generalize mkA Bs n = MK at *
          generalize (i :: t).map nI = NN at *
          generalize (leasts Bs a).map (isD m Bs) = DD at *
          simp_arith only [x_seq]
      have ll : ((leasts Bs a).map (isD m Bs)).length < 1000000 := by
        have : (leasts Bs a).length ≤ (List.range a).length := List.length_filter_le _ _
        rw [List.length_range] at this
        rw [List.length_map]; omega
      have e1 := dv_lc h (a := a) (DD := (leasts Bs a).map (isD m Bs)) (x5 := x5) (x6 := x6) (x7 := x7) (x8 := x8)
      rw [hit] at e1
      have st := dv_yes rfl rfl ix q e1 ew (fz_nI (i :: t)) (fz_sp _) ll
      have la : (leasts Bs (a + 1)).map (isD m Bs) = (leasts Bs a).map (isD m Bs) ++ [.tup [.lst false ((i :: t).map nI), .lst false ((endsW m Bs (i :: t)).map spD)]] := by
        rw [leasts_succ, if_pos hc, List.map_append]
        show _ ++ [isD m Bs a] = _
        unfold isD
        rw [hit]
      obtain ⟨z4, z5, z6, z7, z8, ih⟩ := dv_loop h r (a + 1) (some (.int (a : Int))) (some (.lst false ((i :: t).map nI))) y6 (some (.lst false ((endsW m Bs (i :: t)).map spD))) y8 (by omega)
      rw [la] at ih
      refine ⟨z4, z5, z6, z7, z8, ?_⟩
      rw [st, x_fo3]
      exact ih
theorem due_ok (h : BsOk m n Bs) : f__law_due [.lst false (Bs.map bF), .int (m : Int)] = .ok (.lst true ((leasts Bs n).map (isD m Bs))) := by
  have n63 := h.n63
  obtain ⟨y4, y5, y6, y7, y8, e⟩ := dv_loop h n 0 none none none none none (by omega)
  have e : forL (gN 4) l__law_due_2 (rangeD 0 n) [some (.lst false (Bs.map bF)), some (.int (m : Int)), some (.lst true (mkA Bs n)), some (.lst true []), none, none, none, none, none, none] = _ := e
  have lB : gLen [.lst false (Bs.map bF)] = some (.int (n : Int)) := by rw [vLenL, List.length_map, h.l]
  have em := marks_run h
  have s0 : (sAsg (eCall f__law_marks (aCons (eVar 0) aNil)) (gN 2)) [some (.lst false (Bs.map bF)), some (.int (m : Int)), none, none, none, none, none, none, none, none] = .nx [some (.lst false (Bs.map bF)), some (.int (m : Int)), some (.lst true (mkA Bs n)), none, none, none, none, none, none, none] := by
    generalize mkA Bs n = MK at *
    generalize Bs.map bF = BS at *
    generalize (m : Int) = mm at *
    simp_arith only [em]
  have w : w__law_due_2 [some (.lst false (Bs.map bF)), some (.int (m : Int)), some (.lst true (mkA Bs n)), some (.lst true []), none, none, none, none, none, none] = .nx [some (.lst false (Bs.map bF)), some (.int (m : Int)), some (.lst true (mkA Bs n)), some (.lst true ((leasts Bs n).map (isD m Bs))), y4, y5, y6, y7, y8, none] := by
    unfold w__law_due_2
    rw [x_for_range (N := (n : Int)) (n := n) (τ1 := [some (.lst false (Bs.map bF)), some (.int (m : Int)), some (.lst true (mkA Bs n)), some (.lst true []), none, none, none, none, none, none]) ?_ (by omega) (by omega) (by omega)]
    · exact e
    · generalize mkA Bs n = MK at *
      generalize Bs.map bF = BS at *
      generalize (m : Int) = mm at *
      simp_arith only [lB]
  have k : m__law_due [some (.lst false (Bs.map bF)), some (.int (m : Int)), none, none, none, none, none, none, none, none] = .rt (.lst true ((leasts Bs n).map (isD m Bs))) [some (.lst false (Bs.map bF)), some (.int (m : Int)), some (.lst true (mkA Bs n)), none, y4, y5, y6, y7, y8, none] := x_seq_ok s0 (x_seq_ok (τ1 := [some (.lst false (Bs.map bF)), some (.int (m : Int)), some (.lst true (mkA Bs n)), some (.lst true []), none, none, none, none, none, none]) rfl (x_seq_ok w rfl))
  exact (cF_ok (b := m__law_due) (n := 2) (N := 10) (ds := [.lst false (Bs.map bF), .int (m : Int)]) rfl rfl k).trans rfl
end

/-! ### alike -/
inductive Dat : Nat → D → Prop
  | int (n : Nat) (i : Int) : Dat n (.int i)
  | str (n : Nat) (s : PySem.Str) (h : PySem.PyData.strOk s = true) : Dat n (.str s)
  | lst (n : Nat) (ds : List D) : ds.length ≤ 100000 → (∀ d ∈ ds, Dat n d) → Dat (n + 1) (.lst false ds)
  | tup (n : Nat) (ds : List D) : ds.length ≤ 100000 → (∀ d ∈ ds, Dat n d) → Dat (n + 1) (.tup ds)
theorem Dat.fz {n : Nat} {d : D} (h : Dat n d) : isFz d = true ∧ freeze d = d := by cases h <;> exact ⟨rfl, rfl⟩
theorem whole_ok (a : Int) : f__law_whole [.int a] = .ok (.bl true) := by rfl
theorem all_true {α : Type} (xs : List α) : gAll [.lst true ((xs.map fun _ => true).map D.bl)] = some (.bl true) := by
  show (match (some ((xs.map fun _ => true).map D.bl)).bind boolsOf with | some ns => some (D.bl (ns.all id)) | _ => none) = _
  rw [Option.bind_some, bools_map]
  show some (D.bl ((xs.map fun _ => true).all id)) = _
  congr 2
  induction xs with
  | nil => rfl
  | cons x r ih => rw [List.map_cons, List.all_cons, ih]; rfl
/-! ### the law's claims -/
theorem all_trueN (xs : List Nat) : gAll [.lst true (xs.map fun _ => D.bl true)] = some (.bl true) := by
  have e : (xs.map fun _ => D.bl true) = (xs.map fun _ => true).map D.bl := by rw [List.map_map]; rfl
  rw [e]
  exact all_true xs
theorem al_seq {n : Nat} {d : D} {ds : List D} {f : List D → CR} (hl : ds.length ≤ 100000) (hix : ∀ k : Nat, gIx d (.int (k : Int)) = ds[k]?) (hlen : gLen [d] = some (.int (ds.length : Int))) (l : Bool) (h1 : gIsi [d, .ty "list"] = some (.bl l)) (h2 : gIsi [d, .ty "tuple"] = some (.bl (!l))) (zd : isFz d = true) (fd : freeze d = d) (hd : ∀ e ∈ ds, isFz e = true ∧ freeze e = e ∧ f [e, e] = .ok (.bl true)) : callF 2 3 (m__law_alike f) [d, d] = .ok (.bl true) := by
  have e := lc_pickx (own := [2]) (g := gN 2) (t := tTrue) (m := eCall f (aCons (eZ (Bn.z2 gIx (zVar 0) (zVar 2))) (aCons (eZ (Bn.z2 gIx (zVar 1) (zVar 2))) aNil))) [some d, some d, none] (fun k : Nat => D.int (0 + (k : Int))) (fun _ => true) (fun _ => D.bl true) (List.range ds.length) [] (by rw [List.length_nil, List.length_range]; omega) fun k hk => by
    refine ⟨[some d, some d, some (.int (0 + (k : Int)))], [some d, some d, some (.int (0 + (k : Int)))], rfl, rfl, rfl, fun _ => ⟨[some d, some d, some (.int (0 + (k : Int)))], ?_, rfl⟩⟩
    have hk : k < ds.length := List.mem_range.mp hk
    rw [Int.zero_add]
    have ix := hix k
    rw [List.getElem?_eq_getElem hk] at ix
    obtain ⟨z, fr, ef⟩ := hd ds[k] (List.getElem_mem hk)
    generalize ds[k] = x at *
    generalize (k : Int) = kk at *
    simp_arith only [ix, z, fr, ef]
  rw [List.nil_append, List.filter_eq_self.mpr (fun _ _ => rfl)] at e
  have er : iR1 (aCons (eZ (zC' gLen (zaCons (zVar 1) zaNil))) aNil) [some d, some d, none] = .ok (rangeD 0 ds.length) [some d, some d, none] := by
    refine x_range (N := (ds.length : Int)) ?_ (by omega) (by omega) (by omega)
    simp_arith only [hlen]
  have ec : eLc [2] (iR1 (aCons (eZ (zC' gLen (zaCons (zVar 1) zaNil))) aNil)) (gN 2) tTrue (eCall f (aCons (eZ (Bn.z2 gIx (zVar 0) (zVar 2))) (aCons (eZ (Bn.z2 gIx (zVar 1) (zVar 2))) aNil))) [some d, some d, none] = .ok (.lst true ((List.range ds.length).map fun _ => D.bl true)) [some d, some d, none] := by
    rw [x_lc, er, x_b1]
    show lcE (lcL [2] (gN 2) tTrue _ ((List.range ds.length).map fun k : Nat => D.int (0 + (k : Int))) [] [some d, some d, none]) = _
    rw [e]; rfl
  have ea := all_trueN (List.range ds.length)
  have eq0 : gNe (.int (ds.length : Int)) (.int (ds.length : Int)) = some (.bl false) := by rw [vNe, beq_self_eq_true]; rfl
  unfold m__law_alike
  generalize eLc [2] (iR1 (aCons (eZ (zC' gLen (zaCons (zVar 1) zaNil))) aNil)) (gN 2) tTrue (eCall f (aCons (eZ (Bn.z2 gIx (zVar 0) (zVar 2))) (aCons (eZ (Bn.z2 gIx (zVar 1) (zVar 2))) aNil))) = cc at *
  generalize ((List.range ds.length).map fun _ => D.bl true) = Q at *
  generalize (ds.length : Int) = nn at *
  cases l with
  | true => 
    have n1 : gNe (.bl true) (.bl true) = some (.bl false) := rfl
    have n2 : gNe (.bl false) (.bl false) = some (.bl false) := rfl
    have h2 : gIsi [d, .ty "tuple"] = some (.bl false) := h2
    simp_arith only [h1, h2, n1, n2, hlen, eq0, ec, ea, zd, fd]
  | false =>
    have n1 : gNe (.bl true) (.bl true) = some (.bl false) := rfl
    have n2 : gNe (.bl false) (.bl false) = some (.bl false) := rfl
    have h2 : gIsi [d, .ty "tuple"] = some (.bl true) := h2
    simp_arith only [h1, h2, n1, n2, hlen, eq0, ec, ea, zd, fd]
theorem alike_ok : ∀ (n k : Nat) (d : D), Dat n d → n ≤ k → fr__law_alike (k + 1) [d, d] = .ok (.bl true) := fun n => by
  induction n with
  | zero =>
    intro k d h _
    show callF 2 3 (m__law_alike (fr__law_alike k)) [d, d] = _
    cases h with
    | int _ i =>
      have s1 : gIsi [.int i, .ty "list"] = some (.bl false) := rfl
      have s2 : gIsi [.int i, .ty "tuple"] = some (.bl false) := rfl
      have s3 : gIsi [.int i, .ty "int"] = some (.bl true) := rfl
      have w := whole_ok i
      unfold m__law_alike
      generalize fr__law_alike k = f
      generalize f__law_whole = fw at *
      simp_arith only [s1, s2, s3, w]
    | str _ s hs =>
      have s1 : gIsi [.str s, .ty "list"] = some (.bl false) := rfl
      have s2 : gIsi [.str s, .ty "tuple"] = some (.bl false) := rfl
      have s3 : gIsi [.str s, .ty "int"] = some (.bl false) := rfl
      have s4 : gIsi [.str s, .ty "str"] = some (.bl true) := rfl
      have w : gEq (.str s) (.str s) = some (.bl (s == s)) := vEqS hs hs
      rw [beq_self_eq_true] at w
      unfold m__law_alike
      generalize fr__law_alike k = f
      simp_arith only [s1, s2, s3, s4, w]
  | succ n ih =>
    intro k d h hk
    show callF 2 3 (m__law_alike (fr__law_alike k)) [d, d] = _
    cases h with
    | int _ i =>
      have s1 : gIsi [.int i, .ty "list"] = some (.bl false) := rfl
      have s2 : gIsi [.int i, .ty "tuple"] = some (.bl false) := rfl
      have s3 : gIsi [.int i, .ty "int"] = some (.bl true) := rfl
      have w := whole_ok i
      unfold m__law_alike
      generalize fr__law_alike k = f
      generalize f__law_whole = fw at *
      simp_arith only [s1, s2, s3, w]
    | str _ s hs =>
      have s1 : gIsi [.str s, .ty "list"] = some (.bl false) := rfl
      have s2 : gIsi [.str s, .ty "tuple"] = some (.bl false) := rfl
      have s3 : gIsi [.str s, .ty "int"] = some (.bl false) := rfl
      have s4 : gIsi [.str s, .ty "str"] = some (.bl true) := rfl
      have w : gEq (.str s) (.str s) = some (.bl (s == s)) := vEqS hs hs
      rw [beq_self_eq_true] at w
      unfold m__law_alike
      generalize fr__law_alike k = f
      simp_arith only [s1, s2, s3, s4, w]
    | lst _ ds hl hd =>
      obtain ⟨j, rfl⟩ : ∃ j, k = j + 1 := ⟨k - 1, by omega⟩
      exact al_seq (n := 0) hl (fun i => vIxL false ds i) (vLenL false ds) true rfl rfl rfl rfl fun e he => ⟨(hd e he).fz.1, (hd e he).fz.2, ih j e (hd e he) (by omega)⟩
    | tup _ ds hl hd =>
      obtain ⟨j, rfl⟩ : ∃ j, k = j + 1 := ⟨k - 1, by omega⟩
      exact al_seq (n := 0) hl (fun i => vIxT ds i) (vLenT ds) false rfl rfl rfl rfl fun e he => ⟨(hd e he).fz.1, (hd e he).fz.2, ih j e (hd e he) (by omega)⟩
theorem alike_D {n : Nat} {d : D} (h : Dat n d) (hn : n ≤ 7) : f__law_alike [d, d] = .ok (.bl true) := alike_ok n 7 d h hn
theorem dat_isD {n m : Nat} {Bs : List (List (Int × Int))} (h : BsOk m n Bs) (f : Nat) : Dat 3 (isD m Bs f) := by
  have m4 := h.m4
  have cl := comp_len h f
  refine .tup 2 _ (by show 2 ≤ 100000; decide) fun d hd => ?_
  simp only [List.mem_cons, List.not_mem_nil, or_false] at hd
  rcases hd with rfl | rfl
  · refine .lst 1 _ (by rw [List.length_map]; omega) fun x hx => ?_
    obtain ⟨k, _, rfl⟩ := List.mem_map.mp hx
    exact .int _ _
  · refine .lst 1 _ (by rw [List.length_map]; unfold endsW; rw [List.length_map, List.length_range]; omega) fun x hx => ?_
    obtain ⟨p, _, rfl⟩ := List.mem_map.mp hx
    refine .tup 0 _ (by show 2 ≤ 100000; decide) fun y hy => ?_
    simp only [List.mem_cons, List.not_mem_nil, or_false] at hy
    rcases hy with rfl | rfl
    · exact .int _ _
    · exact .int _ _
theorem fr_bO : ∀ Bs : List (List (Int × Int)), freezeL (Bs.map bO) = Bs.map bF
  | [] => rfl
  | b :: Bs => by
    show D.lst false (freezeL (b.map spD)) :: freezeL (Bs.map bO) = _
    rw [fr_bO Bs, fz_sp]; rfl
theorem ix_w (i : Int) (h : 0 ≤ i ∧ i < 4) : ∃ w : Int, gIx (.lst true [.int 10, .int 14, .int 22, .int 40]) (.int i) = some (.int w) ∧ 1 ≤ w ∧ w ≤ 100 := by
  rcases (by omega : i = 0 ∨ i = 1 ∨ i = 2 ∨ i = 3) with rfl | rfl | rfl | rfl
  · exact ⟨10, rfl, by decide, by decide⟩
  · exact ⟨14, rfl, by decide, by decide⟩
  · exact ⟨22, rfl, by decide, by decide⟩
  · exact ⟨40, rfl, by decide, by decide⟩
section
variable {n m : Nat} {Bs : List (List (Int × Int))}
theorem lt_run {C BO BF X : List D} {mm w : Int} {x5 : Option D} {c3 : ME} {fi fa fd : List D → CR} (q3 : c_law_3 = c3) (qi : f_islands = fi) (qa : f__law_alike = fa) (qd : f__law_due = fd) (e3 : c3 [some (.cst C), some (.int mm), some (.int w), some (.lst true BO), none, x5, none, none, none] = .ok (.lst true BO) [some (.cst C), some (.int mm), some (.int w), some (.lst false BF), none, x5, none, none, none]) (fB : freezeL BO = BF) (fBF : freezeL BF = BF) (ei : fi [.lst false BF] = .ok (.lst true X)) (fX : freezeL X = X) (ed : fd [.lst false BF, .int mm] = .ok (.lst true X)) (ea : fa [.lst false X, .lst false X] = .ok (.bl true)) (he : gEq (.lst false BF) (.lst false BF) = some (.bl true)) : ∃ τ, u_law_4 [some (.cst C), some (.int mm), some (.int w), some (.lst true BO), none, x5, none, none, none] = .rt (.bl true) τ := by
  refine ⟨[some (.cst C), some (.int mm), some (.int w), some (.lst false BF), none, x5, none, some (.lst false BF), some (.lst false X)], ?_⟩
  unfold u_law_4 u_law_5 u_law_6
  rw [q3, qi, qa, qd]; clear q3 qi qa qd
  simp_arith only [e3, fB, fBF, ei, fX, ed, ea, he]
theorem law_tail (h : BsOk m n Bs) {C : List D} {w : Int} {x5 : Option D} : ∃ τ, u_law_4 [some (.cst C), some (.int (m : Int)), some (.int w), some (.lst true (Bs.map bO)), none, x5, none, none, none] = .rt (.bl true) τ := by
  have n63 := h.n63
  have hl := h.l
  have e := lc_pickx (own := [6]) (g := gN 6) (t := tTrue) (m := eLstOf (aCons (eVar 6) aNil)) [some (.cst C), some (.int (m : Int)), some (.int w), some (.lst false (Bs.map bF)), none, x5, none, none, none] bF (fun _ => true) bO Bs [] (by rw [List.length_nil]; omega) fun b hb => by
    refine ⟨[some (.cst C), some (.int (m : Int)), some (.int w), some (.lst false (Bs.map bF)), none, x5, some (bF b), none, none], [some (.cst C), some (.int (m : Int)), some (.int w), some (.lst false (Bs.map bF)), none, x5, some (bF b), none, none], rfl, rfl, rfl, fun _ => ⟨[some (.cst C), some (.int (m : Int)), some (.int w), some (.lst false (Bs.map bF)), none, x5, some (bF b), none, none], ?_, rfl⟩⟩
    have fb := fz_sp b
    unfold bO
    have e : bF b = .lst false (b.map spD) := rfl
    rw [e]
    generalize b.map spD = B at *
    generalize Bs.map bF = BS at *
    simp_arith only [fb]
  rw [List.nil_append, List.filter_eq_self.mpr (fun _ _ => rfl)] at e
  have f1 := fr_bO Bs
  have f2 := fz_bs Bs
  have e3 : c_law_3 [some (.cst C), some (.int (m : Int)), some (.int w), some (.lst true (Bs.map bO)), none, x5, none, none, none] = .ok (.lst true (Bs.map bO)) [some (.cst C), some (.int (m : Int)), some (.int w), some (.lst false (Bs.map bF)), none, x5, none, none, none] := by
    unfold c_law_3
    generalize eLstOf (aCons (eVar 6) aNil) = mm at *
    generalize Bs.map bO = BO at *
    generalize Bs.map bF = BF at *
    simp_arith only [f1, e]
  have ei := islands_ok h
  have ed := due_ok h
  have fX : freezeL ((leasts Bs n).map (isD m Bs)) = (leasts Bs n).map (isD m Bs) := fz_map (fun _ => rfl) _
  have ll : (leasts Bs n).length ≤ 63 := by
    have : (leasts Bs n).length ≤ (List.range n).length := List.length_filter_le _ _
    rw [List.length_range] at this
    omega
  have ea := alike_D (n := 4) (d := .lst false ((leasts Bs n).map (isD m Bs))) (.lst 3 _ (by rw [List.length_map]; omega) fun d hd => by
    obtain ⟨f, _, rfl⟩ := List.mem_map.mp hd
    exact dat_isD h f) (by decide)
  have okB : Bn.Ok 3 (.lst false (Bs.map bF)) := ok_lst fun d hd => by
    obtain ⟨b, _, rfl⟩ := List.mem_map.mp hd
    exact ok_lst fun x hx => by
      obtain ⟨p, _, rfl⟩ := List.mem_map.mp hx
      exact ok_tup (n := 0) fun y hy => by
        simp only [List.mem_cons, List.not_mem_nil, or_false] at hy
        rcases hy with rfl | rfl
        · exact ok_int _
        · exact ok_int _
  exact lt_run rfl rfl rfl rfl e3 f1 f2 ei fX ed ea (vEqX okB okB rfl)
end
theorem bs_of {m : Nat} {Bs : List (List (Int × Int))} (hl : Bs.length ≤ 63) (m1 : 1 ≤ m) (m4 : m ≤ 10) (h : ∀ b ∈ Bs, BxOk m b) : BsOk m Bs.length Bs := ⟨rfl, hl, m1, m4, fun i hi => by
  unfold bx
  rw [List.getD_eq_getElem?_getD, List.getElem?_eq_getElem hi]
  exact h _ (List.getElem_mem hi)⟩
theorem lw_0 {C : List D} {c0 mm w i : Int} {fc : List D → CR} (qc : f__law_cell_at = fc) (e0 : fc [.cst C, .int 0] = .ok (.int c0)) (hm : 1 + c0 % 3 = mm) (hi : c0 / 3 % 4 = i) (hw : gIx (.lst true [.int 10, .int 14, .int 22, .int 40]) (.int i) = some (.int w)) : m_law [some (.cst C), none, none, none, none, none, none, none, none] = u_law_2 [some (.cst C), some (.int mm), some (.int w), none, none, none, none, none, none] := by
  unfold m_law u_law_1
  rw [qc]; clear qc
  generalize u_law_2 = u2
  simp_arith only [e0, hm, hi, hw]
theorem lw_3n {C BO : List D} {mm w c1 : Int} {fc : List D → CR} (qc : f__law_cell_at = fc) (e1 : fc [.cst C, .int 1] = .ok (.int c1)) (h : (c1 % 3 == 1) = false) : u_law_3 [some (.cst C), some (.int mm), some (.int w), some (.lst true BO), none, none, none, none, none] = u_law_4 [some (.cst C), some (.int mm), some (.int w), some (.lst true BO), none, none, none, none, none] := by
  unfold u_law_3
  rw [qc]; clear qc
  generalize u_law_4 = u4
  generalize sSeq (sAsg _ (gN 5)) (sAsg c_law_2 (gN 3)) = body
  simp_arith only [e1, h]
theorem lw_3y {C BO BF BO2 : List D} {mm w c1 : Int} {fc : List D → CR} {c2 : ME} (qc : f__law_cell_at = fc) (q2 : c_law_2 = c2) (e1 : fc [.cst C, .int 1] = .ok (.int c1)) (h : (c1 % 3 == 1) = true) (e2 : c2 [some (.cst C), some (.int mm), some (.int w), some (.lst true BO), none, some (.int (c1 / 3 % 30000000000000)), none, none, none] = .ok (.lst true BO2) [some (.cst C), some (.int mm), some (.int w), some (.lst false BF), none, some (.int (c1 / 3 % 30000000000000)), none, none, none]) : u_law_3 [some (.cst C), some (.int mm), some (.int w), some (.lst true BO), none, none, none, none, none] = u_law_4 [some (.cst C), some (.int mm), some (.int w), some (.lst true BO2), none, some (.int (c1 / 3 % 30000000000000)), none, none, none] := by
  have hp : gPow (.int 10) (.int 13) = some (.int 10000000000000) := rfl
  have hm : gMul (.int 3) (.int 10000000000000) = some (.int 30000000000000) := rfl
  unfold u_law_3
  rw [qc, q2]; clear qc q2
  generalize u_law_4 = u4
  simp_arith only [e1, h, hp, hm, e2]
theorem far_el {C BF : List D} {mm w mv : Int} {b r : D} {ff : List D → CR} (qf : f__law_far = ff) (zb : isFz b = true) (fb : freeze b = b) (ef : ff [b, .int 1000000000000, .int mv] = .ok r) : eCall f__law_far (aCons (eVar 6) (aCons (eZ (Bn.z2 gPow (zC (.int 10)) (zC (.int 12)))) (aCons (eVar 5) aNil))) [some (.cst C), some (.int mm), some (.int w), some (.lst false BF), none, some (.int mv), some b, none, none] = .ok r [some (.cst C), some (.int mm), some (.int w), some (.lst false BF), none, some (.int mv), some b, none, none] := by
  have hp : gPow (.int 10) (.int 12) = some (.int 1000000000000) := rfl
  rw [qf]; clear qf
  simp_arith only [hp, ef, zb, fb]
theorem box_el {C : List D} {mm w c : Int} {r : D} {fb : List D → CR} (qf : f__law_box = fb) (eb : fb [.int c, .int mm, .int w] = .ok r) : eCall f__law_box (aCons (eVar 4) (aCons (eVar 1) (aCons (eVar 2) aNil))) [some (.cst C), some (.int mm), some (.int w), none, some (.int c), none, none, none, none] = .ok r [some (.cst C), some (.int mm), some (.int w), none, some (.int c), none, none, none, none] := by
  rw [qf]; clear qf
  simp_arith only [eb]
theorem c1_run {C SS BO : List D} {mm w : Int} {ee : ME} (hc : cutL C (some 2) (some 32) = SS) (fS : freezeL SS = SS) (e : lcL [4] (gN 4) tTrue ee SS [] [some (.cst C), some (.int mm), some (.int w), none, none, none, none, none, none] = .ok BO [some (.cst C), some (.int mm), some (.int w), none, none, none, none, none, none]) : eLc [4] (iL (eSlice cutLd (eVar 0) (pSome (eZ (zC (.int 2)))) (pSome (eZ (zC (.int 32)))))) (gN 4) tTrue ee [some (.cst C), some (.int mm), some (.int w), none, none, none, none, none, none] = .ok (.lst true BO) [some (.cst C), some (.int mm), some (.int w), none, none, none, none, none, none] := by
  simp_arith only [hc, fS, e]
theorem c2_run {C BO BF Q : List D} {mm w mv : Int} {ee : ME} (f1 : freezeL BO = BF) (e : lcL [6] (gN 6) tTrue ee BF [] [some (.cst C), some (.int mm), some (.int w), some (.lst false BF), none, some (.int mv), none, none, none] = .ok Q [some (.cst C), some (.int mm), some (.int w), some (.lst false BF), none, some (.int mv), none, none, none]) : eLc [6] (iL (eVar 3)) (gN 6) tTrue ee [some (.cst C), some (.int mm), some (.int w), some (.lst true BO), none, some (.int mv), none, none, none] = .ok (.lst true Q) [some (.cst C), some (.int mm), some (.int w), some (.lst false BF), none, some (.int mv), none, none, none] := by
  simp_arith only [f1, e]
theorem law_true (sc : List Int) (h : sc.length ≤ 63) : f_law [.cst (sc.map D.int)] = .ok (.bl true) := by
  obtain ⟨c0, e0⟩ := cell_ok sc (j := 0) (by decide)
  obtain ⟨c1, e1⟩ := cell_ok sc (j := 1) (by decide)
  obtain ⟨m, hm, m1, m3⟩ : ∃ m : Nat, 1 + c0 % 3 = (m : Int) ∧ 1 ≤ m ∧ m ≤ 3 := ⟨(1 + c0 % 3).toNat, by omega, by omega, by omega⟩
  obtain ⟨w, hw, w1, w2⟩ := ix_w (c0 / 3 % 4) (by omega)
  obtain ⟨S, hS⟩ : ∃ S : List Int, cutL sc (some 2) (some 32) = S := ⟨_, rfl⟩
  have hc : cutL (sc.map D.int) (some 2) (some 32) = S.map D.int := by rw [cut_map, hS]
  have hl : S.length ≤ 63 := by rw [← hS]; exact Nat.le_trans (cut_length_le _ _ _) h
  have fS : freezeL (S.map D.int) = S.map D.int := fz_map (fun _ => rfl) S
  obtain ⟨es, hes, e⟩ := lc_all (own := [4]) (g := gN 4) (m := eCall f__law_box (aCons (eVar 4) (aCons (eVar 1) (aCons (eVar 2) aNil)))) (fun _ d => ∃ b, d = bO b ∧ BxOk m b ∧ ∀ p ∈ b, p.1.natAbs ≤ 1000 ∧ p.2.natAbs ≤ 1000) [some (.cst (sc.map D.int)), some (.int (m : Int)), some (.int w), none, none, none, none, none, none] (S.map D.int) [] (by rw [List.length_nil, List.length_map]; omega) (fun d hd => by
    obtain ⟨c, _, rfl⟩ := List.mem_map.mp hd
    obtain ⟨b, eb, h1, h2⟩ := box_ok c (m := m) (by omega) w1 w2
    exact ⟨bO b, _, [some (.cst (sc.map D.int)), some (.int (m : Int)), some (.int w), none, some (.int c), none, none, none, none], rfl, box_el rfl eb, rfl, b, rfl, h1, h2⟩)
  rw [List.nil_append] at e
  obtain ⟨Bs, rfl⟩ := lc_map bO (fun _ d => ∃ b, d = bO b ∧ BxOk m b ∧ ∀ p ∈ b, p.1.natAbs ≤ 1000 ∧ p.2.natAbs ≤ 1000) (fun d e h => ⟨h.choose, h.choose_spec.1⟩) hes
  have hlen := hes.length
  rw [List.length_map, List.length_map] at hlen
  have hb : ∀ b ∈ Bs, BxOk m b ∧ ∀ p ∈ b, p.1.natAbs ≤ 1000 ∧ p.2.natAbs ≤ 1000 := fun b hb => by
    obtain ⟨q, e1, e2, e3⟩ := All2.right (Q := fun d => ∃ b, d = bO b ∧ BxOk m b ∧ ∀ p ∈ b, p.1.natAbs ≤ 1000 ∧ p.2.natAbs ≤ 1000) (fun d e h => h) hes (bO b) (List.mem_map_of_mem hb)
    have h1 : D.lst true (b.map spD) = .lst true (q.map spD) := e1
    injection h1 with _ h1
    have inj : ∀ {xs ys : List (Int × Int)}, xs.map spD = ys.map spD → xs = ys := fun {xs} => by
      induction xs with
      | nil => intro ys h; cases ys with | nil => rfl | cons y ys => cases h
      | cons x xs ih =>
        intro ys h
        cases ys with
        | nil => cases h
        | cons y ys =>
          rw [List.map_cons, List.map_cons] at h
          injection h with h0 h2
          obtain ⟨a, b⟩ := x
          obtain ⟨c, d⟩ := y
          have h0 : D.tup [.int a, .int b] = .tup [.int c, .int d] := h0
          injection h0 with h0
          injection h0 with x1 x2
          injection x1 with x1
          injection x2 with x2 _
          injection x2 with x2
          rw [x1, x2, ih h2]
    have := inj h1
    subst this
    exact ⟨e2, e3⟩
  have k1 : c_law_1 [some (.cst (sc.map D.int)), some (.int (m : Int)), some (.int w), none, none, none, none, none, none] = .ok (.lst true (Bs.map bO)) [some (.cst (sc.map D.int)), some (.int (m : Int)), some (.int w), none, none, none, none, none, none] := by
    exact c1_run hc fS e
  have t0 := lw_0 (C := sc.map D.int) rfl e0 hm rfl hw
  have t2 : u_law_2 [some (.cst (sc.map D.int)), some (.int (m : Int)), some (.int w), none, none, none, none, none, none] = u_law_3 [some (.cst (sc.map D.int)), some (.int (m : Int)), some (.int w), some (.lst true (Bs.map bO)), none, none, none, none, none] := x_seq_ok (x_asg_ok k1 rfl) rfl
  have bl : Bs.length ≤ 63 := by omega
  have key : ∃ τ, u_law_3 [some (.cst (sc.map D.int)), some (.int (m : Int)), some (.int w), some (.lst true (Bs.map bO)), none, none, none, none, none] = .rt (.bl true) τ := by
    cases q : (c1 % 3 == 1) with
    | false =>
      have t3 := lw_3n (C := sc.map D.int) (BO := Bs.map bO) (mm := (m : Int)) (w := w) rfl e1 q
      obtain ⟨τ, t4⟩ := law_tail (bs_of bl m1 (by omega) fun b hb' => (hb b hb').1) (C := sc.map D.int) (w := w) (x5 := none)
      exact ⟨τ, t3.trans t4⟩
    | true =>
      obtain ⟨mv, hmv⟩ : ∃ mv, c1 / 3 % 30000000000000 = mv := ⟨_, rfl⟩
      have f1 := fr_bO Bs
      have e := lc_pickx (own := [6]) (g := gN 6) (t := tTrue) (m := eCall f__law_far (aCons (eVar 6) (aCons (eZ (Bn.z2 gPow (zC (.int 10)) (zC (.int 12)))) (aCons (eVar 5) aNil)))) [some (.cst (sc.map D.int)), some (.int (m : Int)), some (.int w), some (.lst false (Bs.map bF)), none, some (.int mv), none, none, none] bF (fun _ => true) (fun b => bO (b.map (farP 1000000000000 mv))) Bs [] (by rw [List.length_nil]; omega) fun b hb' => by
        refine ⟨[some (.cst (sc.map D.int)), some (.int (m : Int)), some (.int w), some (.lst false (Bs.map bF)), none, some (.int mv), some (bF b), none, none], [some (.cst (sc.map D.int)), some (.int (m : Int)), some (.int w), some (.lst false (Bs.map bF)), none, some (.int mv), some (bF b), none, none], rfl, rfl, rfl, fun _ => ⟨[some (.cst (sc.map D.int)), some (.int (m : Int)), some (.int w), some (.lst false (Bs.map bF)), none, some (.int mv), some (bF b), none, none], ?_, rfl⟩⟩
        exact far_el rfl rfl rfl (far_ok (b := b) (mv := mv) (by rw [(hb b hb').1.l]; omega) (hb b hb').2)
      rw [List.nil_append, List.filter_eq_self.mpr (fun _ _ => rfl)] at e
      have em : (Bs.map fun b => bO (b.map (farP 1000000000000 mv))) = (Bs.map fun b => b.map (farP 1000000000000 mv)).map bO := by rw [List.map_map]; rfl
      rw [em] at e
      have e2 : c_law_2 [some (.cst (sc.map D.int)), some (.int (m : Int)), some (.int w), some (.lst true (Bs.map bO)), none, some (.int mv), none, none, none] = .ok (.lst true ((Bs.map fun b => b.map (farP 1000000000000 mv)).map bO)) [some (.cst (sc.map D.int)), some (.int (m : Int)), some (.int w), some (.lst false (Bs.map bF)), none, some (.int mv), none, none, none] := by
        exact c2_run f1 e
      rw [← hmv] at e2
      have t3 := lw_3y (C := sc.map D.int) (mm := (m : Int)) (w := w) rfl rfl e1 q e2
      rw [hmv] at t3
      obtain ⟨τ, t4⟩ := law_tail (bs_of (Bs := Bs.map fun b => b.map (farP 1000000000000 mv)) (by rw [List.length_map]; exact bl) m1 (by omega) fun b hb' => by
        obtain ⟨b0, h0, rfl⟩ := List.mem_map.mp hb'
        exact far_bx (hb b0 h0).1 mv) (C := sc.map D.int) (w := w) (x5 := some (.int mv))
      exact ⟨τ, t3.trans t4⟩
  obtain ⟨τ, key⟩ := key
  exact (cF_ok (b := m_law) (n := 1) (N := 9) (ds := [.cst (sc.map D.int)]) rfl rfl ((t0.trans t2).trans key)).trans rfl


end Lw

namespace Lw
open PySem PySem.Spec PyProof.Rows L2 Bn
/-! ### what the top has written -/
structure Tx (K : PySem.W.Frag) (mg : Str → Option Value) (ca : Str → Addr) : Prop where
  all_ : mg "all" = none
  bool_ : mg "bool" = none
  enumerate : mg "enumerate" = none
  int_ : mg "int" = none
  isinstance : mg "isinstance" = none
  len_ : mg "len" = none
  list_ : mg "list" = none
  max_ : mg "max" = none
  min_ : mg "min" = none
  range : mg "range" = none
  sorted : mg "sorted" = none
  str_ : mg "str" = none
  tuple_ : mg "tuple" = none
section
variable {P : Program} {w : World} {K : PySem.W.Frag} {mg : Str → Option Value} {base : Heap} {ca : Str → Addr}
theorem ok_common (T : Tx K mg ca)  {f : Addr} {fd : FuncData} (F : Fun K "common" "common" s_common f fd) : FnOk P w K mg base (L2.CX P w) 1 f fd ["a", "b"] (spP K ca f_common) :=
  fn_ok F sc_common fun cdv A outer s H E F0 R hr c => (s_cons (s_set (i := 2) sc_common.nd rfl (.inl rfl) (e_z (z_callB (call_max2 c.calm) sMax2 (by rfl) T.max_ (by decide +kernel) (za_cons (z_ix ix_seq sIx (z_var (pv 0)) z_int) (za_cons (z_ix ix_seq sIx (z_var (pv 1)) z_int) za_nil)))))
    (s_cons (s_set (i := 3) sc_common.nd rfl (.inl rfl) (e_z (z_callB (call_min2 c.calm) sMin2 (by rfl) T.min_ (by decide +kernel) (za_cons (z_ix ix_seq sIx (z_var (pv 0)) z_int) (za_cons (z_ix ix_seq sIx (z_var (pv 1)) z_int) za_nil)))))
    (s_cons (s_if (t_cmpZ op_lt sLt (z_var (pv 3)) (z_var (pv 2))) (s_one (s_ret (e_z z_non))) s_nil)
    (s_one (s_ret (e_tup (a_cons (e_var (pv 2)) (a_cons (e_var (pv 3)) a_nil))))))))
theorem ok_touch (T : Tx K mg ca) (G_common : Fo P w K mg base ca 1 "common" f_common) {f : Addr} {fd : FuncData} (F : Fun K "touch" "touch" s_touch f fd) : FnOk P w K mg base (L2.CX P w) 2 f fd ["one", "other"] (spP K ca f_touch) :=
  fn_ok F sc_touch fun cdv A outer s H E F0 R hr c => (s_cons (s_for c (i_range1 (by rfl) T.range (a_cons (e_z (z_callB call_len sLen (by rfl) T.len_ (by decide +kernel) (za_cons (z_var (pv 0)) za_nil))) a_nil)) (g_name (i := 2) sc_touch.nd rfl (.inl rfl)) (s_one (s_if (t_cmpE op_isN sIsN (e_call c G_common hr (by rfl) (a_cons (e_z (z_ix ix_seq sIx (z_var (pv 0)) (z_var (pv 2)))) (a_cons (e_z (z_ix ix_seq sIx (z_var (pv 1)) (z_var (pv 2)))) a_nil))) (e_z z_non)) (s_one (s_ret (e_z z_bl))) s_nil)))
    (s_one (s_ret (e_z z_bl))))
theorem ok_grown_from (T : Tx K mg ca) (G_touch : Fo P w K mg base ca 2 "touch" f_touch) {f : Addr} {fd : FuncData} (F : Fun K "grown_from" "grown_from" s_grown_from f fd) : FnOk P w K mg base (L2.CX P w) 3 f fd ["boxes", "first"] (spP K ca f_grown_from) :=
  fn_ok F sc_grown_from fun cdv A outer s H E F0 R hr c => (s_cons (s_set (i := 2) sc_grown_from.nd rfl (.inl rfl) (e_lst (a_cons (e_var (pv 1)) a_nil)))
    (s_cons (s_set (i := 3) sc_grown_from.nd rfl (.inl rfl) (e_z z_int))
    (s_cons (s_while c fuel_grown_from1 (t_cmpZ op_lt sLt (z_var (pv 3)) (z_callB call_len sLen (by rfl) T.len_ (by decide +kernel) (za_cons (z_var (pv 2)) za_nil))) (s_cons (s_for c (i_range1 (by rfl) T.range (a_cons (e_z (z_callB call_len sLen (by rfl) T.len_ (by decide +kernel) (za_cons (z_var (pv 0)) za_nil))) a_nil)) (g_name (i := 4) sc_grown_from.nd rfl (.inl rfl)) (s_one (s_if (PW.pt (t_and (t_cmpZ op_notIn_seq sIn (z_var (pv 4)) (z_var (pv 2))) (t_and1 (t_valE (e_call c G_touch hr (by rfl) (a_cons (e_z (z_ix ix_seq sIx (z_var (pv 0)) (z_ix ix_seq sIx (z_var (pv 2)) (z_var (pv 3))))) (a_cons (e_z (z_ix ix_seq sIx (z_var (pv 0)) (z_var (pv 4)))) a_nil))))))) (s_one (s_app (pv 2) (e_var (pv 4)))) s_nil)))
    (s_one (s_set (i := 3) sc_grown_from.nd rfl (.inl rfl) (e_z (z_op op_add sAdd (z_var (pv 3)) z_int))))))
    (s_one (s_ret (e_sorted (by rfl) T.sorted (by decide +kernel) (a_cons (e_var (pv 2)) a_nil)))))))
theorem ok_hull (T : Tx K mg ca)  {f : Addr} {fd : FuncData} (F : Fun K "hull" "hull" s_hull f fd) : FnOk P w K mg base (L2.CX P w) 1 f fd ["a", "b"] (spP K ca f_hull) :=
  fn_ok F sc_hull fun cdv A outer s H E F0 R hr c => (s_one (s_ret (e_tup (a_cons (e_z (z_callB (call_min2 c.calm) sMin2 (by rfl) T.min_ (by decide +kernel) (za_cons (z_ix ix_seq sIx (z_var (pv 0)) z_int) (za_cons (z_ix ix_seq sIx (z_var (pv 1)) z_int) za_nil)))) (a_cons (e_z (z_callB (call_max2 c.calm) sMax2 (by rfl) T.max_ (by decide +kernel) (za_cons (z_ix ix_seq sIx (z_var (pv 0)) z_int) (za_cons (z_ix ix_seq sIx (z_var (pv 1)) z_int) za_nil)))) a_nil)))))
theorem ok_hull_of (T : Tx K mg ca) (G_hull : Fo P w K mg base ca 1 "hull" f_hull) {f : Addr} {fd : FuncData} (F : Fun K "hull_of" "hull_of" s_hull_of f fd) : FnOk P w K mg base (L2.CX P w) 2 f fd ["boxes", "numbers"] (spP K ca f_hull_of) :=
  fn_ok F sc_hull_of fun cdv A outer s H E F0 R hr c => (s_cons (s_set (i := 2) sc_hull_of.nd rfl (.inr rfl) (e_lstOf (by rfl) T.list_ (by decide +kernel) (a_cons (e_z (z_ix ix_seq sIx (z_var (pv 0)) (z_ix ix_seq sIx (z_var (pv 1)) z_int))) a_nil)))
    (s_cons (s_for c (i_list (e_var (pv 1))) (g_name (i := 3) sc_hull_of.nd rfl (.inr rfl)) (s_one (s_set (i := 2) sc_hull_of.nd rfl (.inr rfl) (e_lc (own := [("k", 4)]) c sc_hull_of.nd (i_range1 (by rfl) T.range (a_cons (e_z (z_callB call_len sLen (by rfl) T.len_ (by decide +kernel) (za_cons (z_var (pv 2)) za_nil))) a_nil)) (blkOk_by (own := [("k", 4)]) (N := ["boxes", "numbers", "spans", "number", "k"]) (sc := defScope s_hull_of) (by decide +kernel)) (fun _ _ _ _ _ => (g_name (i := 4) sc_hull_of.nd rfl (.inl rfl))) (fun _ _ _ _ _ => ts_nil) (fun _ _ _ _ _ c => (e_call c G_hull hr (by rfl) (a_cons (e_z (z_ix ix_seq sIx (z_var (pv 2)) (z_var (pv 4)))) (a_cons (e_z (z_ix ix_seq sIx (z_ix ix_seq sIx (z_var (pv 0)) (z_var (pv 3))) (z_var (pv 4)))) a_nil))))) (hs := sw_false rfl))))
    (s_one (s_ret (e_mv (pv 2))))))
theorem ok_islands (T : Tx K mg ca) (G_grown_from : Fo P w K mg base ca 3 "grown_from" f_grown_from) (G_hull_of : Fo P w K mg base ca 2 "hull_of" f_hull_of) {f : Addr} {fd : FuncData} (F : Fun K "islands" "islands" s_islands f fd) : FnOk P w K mg base (L2.CX P w) 4 f fd ["boxes"] (spP K ca f_islands) :=
  fn_ok F sc_islands fun cdv A outer s H E F0 R hr c => (s_cons (s_set (i := 1) sc_islands.nd rfl (.inl rfl) (e_lst a_nil))
    (s_cons (s_set (i := 2) sc_islands.nd rfl (.inl rfl) e_dct)
    (s_cons (s_for c (i_range1 (by rfl) T.range (a_cons (e_z (z_callB call_len sLen (by rfl) T.len_ (by decide +kernel) (za_cons (z_var (pv 0)) za_nil))) a_nil)) (g_name (i := 3) sc_islands.nd rfl (.inl rfl)) (s_cons (s_if (t_cmpZ (op_dIn (units65 hr)) sDIn (z_var (pv 3)) (z_var (pv 2))) (s_one s_continue) s_nil)
    (s_cons (s_set (i := 4) sc_islands.nd rfl (.inl rfl) (e_call c G_grown_from hr (by rfl) (a_cons (e_var (pv 0)) (a_cons (e_var (pv 3)) a_nil))))
    (s_cons (s_for c (i_list (e_var (pv 4))) (g_name (i := 5) sc_islands.nd rfl (.inl rfl)) (s_one (s_dput (units65 hr) (pv 2) (z_var (pv 5)) (e_z z_bl))))
    (s_one (s_app (pv 1) (e_tup (a_cons (e_var (pv 4)) (a_cons (e_call c G_hull_of hr (by rfl) (a_cons (e_var (pv 0)) (a_cons (e_var (pv 4)) a_nil))) a_nil)))))))))
    (s_one (s_ret (e_mv (pv 1)))))))
theorem ok__law_mix (T : Tx K mg ca)  {f : Addr} {fd : FuncData} (F : Fun K "_law_mix" "_law_mix" s__law_mix f fd) : FnOk P w K mg base (L2.CX P w) 1 f fd ["_law_cell", "_law_k"] (spP K ca f__law_mix) :=
  fn_ok F sc__law_mix fun cdv A outer s H E F0 R hr c => (s_one (s_ret (e_z (z_op op_mod sMod (z_op op_add sAdd (z_op op_mul sMulS (z_op op_mul sMulS (z_var (pv 0)) (z_op op_add sAdd (z_op op_mul sMulS z_int (z_var (pv 1))) z_int)) z_int) (z_op op_mul sMulS (z_op op_mul sMulS (z_var (pv 1)) (z_var (pv 1))) z_int)) z_int))))
theorem ok__law_box (T : Tx K mg ca) (G__law_mix : Fo P w K mg base ca 1 "_law_mix" f__law_mix) {f : Addr} {fd : FuncData} (F : Fun K "_law_box" "_law_box" s__law_box f fd) : FnOk P w K mg base (L2.CX P w) 2 f fd ["_law_cell", "_law_size", "_law_wide"] (spP K ca f__law_box) :=
  fn_ok F sc__law_box fun cdv A outer s H E F0 R hr c => (s_cons (s_set (i := 3) sc__law_box.nd rfl (.inl rfl) (e_lst a_nil))
    (s_cons (s_for c (i_range1 (by rfl) T.range (a_cons (e_var (pv 1)) a_nil)) (g_name (i := 4) sc__law_box.nd rfl (.inl rfl)) (s_cons (s_set (i := 5) sc__law_box.nd rfl (.inl rfl) (e_op op_mod sMod (e_call c G__law_mix hr (by rfl) (a_cons (e_var (pv 0)) (a_cons (e_var (pv 4)) a_nil))) (e_var (pv 2))))
    (s_one (s_app (pv 3) (e_tup (a_cons (e_var (pv 5)) (a_cons (e_op op_add sAdd (e_var (pv 5)) (e_op op_mod sMod (e_call c G__law_mix hr (by rfl) (a_cons (e_var (pv 0)) (a_cons (e_z (z_op op_add sAdd (z_var (pv 4)) z_int)) a_nil))) (e_z z_int))) a_nil)))))))
    (s_one (s_ret (e_mv (pv 3))))))
theorem ok__law_whole (T : Tx K mg ca)  {f : Addr} {fd : FuncData} (F : Fun K "_law_whole" "_law_whole" s__law_whole f fd) : FnOk P w K mg base (L2.CX P w) 1 f fd ["_law_found"] (spP K ca f__law_whole) :=
  fn_ok F sc__law_whole fun cdv A outer s H E F0 R hr c => (s_one (s_ret (e_and (e_z (z_callB call_isi sIsi (by rfl) T.isinstance (by decide +kernel) (za_cons (z_var (pv 0)) (za_cons (z_ty (by rfl) T.int_ (by decide +kernel)) za_nil)))) (e_one (e_not (e_z (z_callB call_isi sIsi (by rfl) T.isinstance (by decide +kernel) (za_cons (z_var (pv 0)) (za_cons (z_ty (by rfl) T.bool_ (by decide +kernel)) za_nil)))))))))
theorem ok__law_alike (T : Tx K mg ca) {lr : Nat} (G__law_whole : Fo P w K mg base ca 1 "_law_whole" f__law_whole) {r__law_alike : List D → CR} (G__law_alike : Fo P w K mg base ca lr "_law_alike" r__law_alike) {f : Addr} {fd : FuncData} (F : Fun K "_law_alike" "_law_alike" s__law_alike f fd) : FnOk P w K mg base (L2.CX P w) (lr + 1 + 1) f fd ["_law_found", "_law_due_here"] (spP K ca (callF 2 3 (m__law_alike r__law_alike))) :=
  fn_ok F sc__law_alike fun cdv A outer s H E F0 R hr c => (s_cons (s_if (PW.pt (t_or (t_valZ (z_callB call_isi sIsi (by rfl) T.isinstance (by decide +kernel) (za_cons (z_var (pv 1)) (za_cons (z_ty (by rfl) T.list_ (by decide +kernel)) za_nil)))) (t_or1 (t_valZ (z_callB call_isi sIsi (by rfl) T.isinstance (by decide +kernel) (za_cons (z_var (pv 1)) (za_cons (z_ty (by rfl) T.tuple_ (by decide +kernel)) za_nil))))))) (s_cons (s_if (PW.pt (t_or (t_cmpZ (op_neD hr.units) sNe (z_callB call_isi sIsi (by rfl) T.isinstance (by decide +kernel) (za_cons (z_var (pv 1)) (za_cons (z_ty (by rfl) T.list_ (by decide +kernel)) za_nil))) (z_callB call_isi sIsi (by rfl) T.isinstance (by decide +kernel) (za_cons (z_var (pv 0)) (za_cons (z_ty (by rfl) T.list_ (by decide +kernel)) za_nil)))) (t_or1 (t_cmpZ (op_neD hr.units) sNe (z_callB call_isi sIsi (by rfl) T.isinstance (by decide +kernel) (za_cons (z_var (pv 1)) (za_cons (z_ty (by rfl) T.tuple_ (by decide +kernel)) za_nil))) (z_callB call_isi sIsi (by rfl) T.isinstance (by decide +kernel) (za_cons (z_var (pv 0)) (za_cons (z_ty (by rfl) T.tuple_ (by decide +kernel)) za_nil))))))) (s_one (s_ret (e_z z_bl))) s_nil)
    (s_cons (s_if (t_cmpZ (op_neD hr.units) sNe (z_callB call_len sLen (by rfl) T.len_ (by decide +kernel) (za_cons (z_var (pv 0)) za_nil)) (z_callB call_len sLen (by rfl) T.len_ (by decide +kernel) (za_cons (z_var (pv 1)) za_nil))) (s_one (s_ret (e_z z_bl))) s_nil)
    (s_one (s_ret (e_callB (cr_all c.calm) sAll (by rfl) T.all_ (by decide +kernel) (a_cons (e_lc (own := [("_law_k", 2)]) c sc__law_alike.nd (i_range1 (by rfl) T.range (a_cons (e_z (z_callB call_len sLen (by rfl) T.len_ (by decide +kernel) (za_cons (z_var (pv 1)) za_nil))) a_nil)) (blkOk_by (own := [("_law_k", 2)]) (N := ["_law_found", "_law_due_here", "_law_k"]) (sc := defScope s__law_alike) (by decide +kernel)) (fun _ _ _ _ _ => (g_name (i := 2) sc__law_alike.nd rfl (.inl rfl))) (fun _ _ _ _ _ => ts_nil) (fun _ _ _ _ _ c => (e_call c G__law_alike hr (by rfl) (a_cons (e_z (z_ix ix_seq sIx (z_var (pv 0)) (z_var (pv 2)))) (a_cons (e_z (z_ix ix_seq sIx (z_var (pv 1)) (z_var (pv 2)))) a_nil)) (hk := by omega)))) a_nil)))))) s_nil)
    (s_cons (s_if (t_valZ (z_callB call_isi sIsi (by rfl) T.isinstance (by decide +kernel) (za_cons (z_var (pv 1)) (za_cons (z_ty (by rfl) T.int_ (by decide +kernel)) za_nil)))) (s_one (s_ret (e_and (e_call c G__law_whole hr (by rfl) (a_cons (e_var (pv 0)) a_nil) (hk := by omega)) (e_one (e_z (z_cmp (op_eqD hr.units) sEq (z_var (pv 0)) (z_var (pv 1)))))))) s_nil)
    (s_one (s_ret (e_and (e_z (z_callB call_isi sIsi (by rfl) T.isinstance (by decide +kernel) (za_cons (z_var (pv 0)) (za_cons (z_ty (by rfl) T.str_ (by decide +kernel)) za_nil)))) (e_one (e_z (z_cmp (op_eqD hr.units) sEq (z_var (pv 0)) (z_var (pv 1))))))))))
theorem ok__law_cell_at (T : Tx K mg ca)  {f : Addr} {fd : FuncData} (F : Fun K "_law_cell_at" "_law_cell_at" s__law_cell_at f fd) : FnOk P w K mg base (L2.CX P w) 1 f fd ["_law_script", "_law_k"] (spP K ca f__law_cell_at) :=
  fn_ok F sc__law_cell_at fun cdv A outer s H E F0 R hr c => (s_cons (s_if (t_cmpZ op_lt sLt (z_var (pv 1)) (z_callB call_len sLen (by rfl) T.len_ (by decide +kernel) (za_cons (z_var (pv 0)) za_nil))) (s_one (s_ret (e_z (z_ix ix_seq sIx (z_var (pv 0)) (z_var (pv 1)))))) s_nil)
    (s_one (s_ret (e_z z_int))))
theorem ok__law_far (T : Tx K mg ca)  {f : Addr} {fd : FuncData} (F : Fun K "_law_far" "_law_far" s__law_far f fd) : FnOk P w K mg base (L2.CX P w) 1 f fd ["_law_box_here", "_law_factor", "_law_moved"] (spP K ca f__law_far) :=
  fn_ok F sc__law_far fun cdv A outer s H E F0 R hr c => (s_one (s_ret (e_lc (own := [("_law_low", 3), ("_law_high", 4)]) c sc__law_far.nd (i_list (e_var (pv 0))) (blkOk_by (own := [("_law_low", 3), ("_law_high", 4)]) (N := ["_law_box_here", "_law_factor", "_law_moved", "_law_low", "_law_high"]) (sc := defScope s__law_far) (by decide +kernel)) (fun _ _ _ _ _ => (g_tup c.calm (gs_cons (g_name (i := 3) sc__law_far.nd rfl (.inl rfl)) (gs_cons (g_name (i := 4) sc__law_far.nd rfl (.inl rfl)) gs_nil)))) (fun _ _ _ _ _ => ts_nil) (fun _ _ _ _ _ c => (e_tup (a_cons (e_z (z_op op_sub sSub (z_op op_mulW sMul (z_var (pv 3)) (z_var (pv 1))) (z_var (pv 2)))) (a_cons (e_z (z_op op_sub sSub (z_op op_mulW sMul (z_var (pv 4)) (z_var (pv 1))) (z_var (pv 2)))) a_nil)))))))
theorem ok__law_touch (T : Tx K mg ca)  {f : Addr} {fd : FuncData} (F : Fun K "_law_touch" "_law_touch" s__law_touch f fd) : FnOk P w K mg base (L2.CX P w) 1 f fd ["_law_one", "_law_other"] (spP K ca f__law_touch) :=
  fn_ok F sc__law_touch fun cdv A outer s H E F0 R hr c => (s_cons (s_for c (i_range1 (by rfl) T.range (a_cons (e_z (z_callB call_len sLen (by rfl) T.len_ (by decide +kernel) (za_cons (z_var (pv 0)) za_nil))) a_nil)) (g_name (i := 2) sc__law_touch.nd rfl (.inl rfl)) (s_one (s_if (PW.pt (t_or (t_cmpZ op_lt sLt (z_ix ix_seq sIx (z_ix ix_seq sIx (z_var (pv 0)) (z_var (pv 2))) z_int) (z_ix ix_seq sIx (z_ix ix_seq sIx (z_var (pv 1)) (z_var (pv 2))) z_int)) (t_or1 (t_cmpZ op_lt sLt (z_ix ix_seq sIx (z_ix ix_seq sIx (z_var (pv 1)) (z_var (pv 2))) z_int) (z_ix ix_seq sIx (z_ix ix_seq sIx (z_var (pv 0)) (z_var (pv 2))) z_int))))) (s_one (s_ret (e_z z_bl))) s_nil)))
    (s_one (s_ret (e_z z_bl))))
theorem ok__law_marks (T : Tx K mg ca) (G__law_touch : Fo P w K mg base ca 1 "_law_touch" f__law_touch) {f : Addr} {fd : FuncData} (F : Fun K "_law_marks" "_law_marks" s__law_marks f fd) : FnOk P w K mg base (L2.CX P w) 2 f fd ["_law_boxes"] (spP K ca f__law_marks) :=
  fn_ok F sc__law_marks fun cdv A outer s H E F0 R hr c => (s_cons (s_set (i := 1) sc__law_marks.nd rfl (.inr rfl) (e_lst a_nil))
    (s_cons (s_for c (i_enum (by rfl) T.enumerate (a_cons (e_var (pv 0)) a_nil)) (g_tup c.calm (gs_cons (g_name (i := 2) sc__law_marks.nd rfl (.inl rfl)) (gs_cons (g_name (i := 3) sc__law_marks.nd rfl (.inr rfl)) gs_nil))) (s_cons (s_set (i := 4) sc__law_marks.nd rfl (.inr rfl) (e_cat (e_lc (own := [("_law_k", 5)]) c sc__law_marks.nd (i_range1 (by rfl) T.range (a_cons (e_var (pv 2)) a_nil)) (blkOk_by (own := [("_law_k", 5)]) (N := ["_law_boxes", "_law_marks_here", "_law_at", "_law_box_here", "_law_mine", "_law_k", "_law_least", "_law_mark"]) (sc := defScope s__law_marks) (by decide +kernel)) (fun _ _ _ _ _ => (g_name (i := 5) sc__law_marks.nd rfl (.inl rfl))) (fun _ _ _ _ _ => (lcT c fun c => (ts_one (t_valE (e_call c G__law_touch hr (by rfl) (a_cons (e_z (z_ix ix_seq sIx (z_var (pv 0)) (z_var (pv 5)))) (a_cons (e_var (pv 3)) a_nil))))))) (fun _ _ _ _ _ c => (e_z (z_ix ix_seq sIx (z_var (pv 1)) (z_var (pv 5)))))) (e_lst (a_cons (e_var (pv 2)) a_nil))))
    (s_cons (s_set (i := 6) sc__law_marks.nd rfl (.inr rfl) (e_z (z_callB (cr_min c.calm) sMinL (by rfl) T.min_ (by decide +kernel) (za_cons (z_var (pv 4)) za_nil))))
    (s_one (s_set (i := 1) sc__law_marks.nd rfl (.inr rfl) (e_cat (e_lc (own := [("_law_mark", 7)]) c sc__law_marks.nd (i_list (e_var (pv 1))) (blkOk_by (own := [("_law_mark", 7)]) (N := ["_law_boxes", "_law_marks_here", "_law_at", "_law_box_here", "_law_mine", "_law_k", "_law_least", "_law_mark"]) (sc := defScope s__law_marks) (by decide +kernel)) (fun _ _ _ _ _ => (g_name (i := 7) sc__law_marks.nd rfl (.inl rfl))) (fun _ _ _ _ _ => ts_nil) (fun _ _ _ _ _ c => (e_if (t_cmpZ op_in_seq sIn (z_var (pv 7)) (z_var (pv 4))) (e_var (pv 6)) (e_var (pv 7))))) (e_lst (a_cons (e_var (pv 6)) a_nil))))))))
    (s_one (s_ret (e_mv (pv 1))))))
theorem ok__law_due (T : Tx K mg ca) (G__law_marks : Fo P w K mg base ca 2 "_law_marks" f__law_marks) {f : Addr} {fd : FuncData} (F : Fun K "_law_due" "_law_due" s__law_due f fd) : FnOk P w K mg base (L2.CX P w) 3 f fd ["_law_boxes", "_law_size"] (spP K ca f__law_due) :=
  fn_ok F sc__law_due fun cdv A outer s H E F0 R hr c => (s_cons (s_set (i := 2) sc__law_due.nd rfl (.inr rfl) (e_call c G__law_marks hr (by rfl) (a_cons (e_var (pv 0)) a_nil)))
    (s_cons (s_set (i := 3) sc__law_due.nd rfl (.inl rfl) (e_lst a_nil))
    (s_cons (s_for c (i_range1 (by rfl) T.range (a_cons (e_z (z_callB call_len sLen (by rfl) T.len_ (by decide +kernel) (za_cons (z_var (pv 0)) za_nil))) a_nil)) (g_name (i := 4) sc__law_due.nd rfl (.inr rfl)) (s_one (s_if (t_cmpZ (op_eqD hr.units) sEq (z_ix ix_seq sIx (z_var (pv 2)) (z_var (pv 4))) (z_var (pv 4))) (s_cons (s_setLc (i := 5) (own := [("_law_k", 6)]) c sc__law_due.nd rfl rfl (sw_true rfl rfl rfl (by decide +kernel)) (i_range1 (by rfl) T.range (a_cons (e_z (z_callB call_len sLen (by rfl) T.len_ (by decide +kernel) (za_cons (z_var (pv 0)) za_nil))) a_nil)) (blkOk_by (own := [("_law_k", 6)]) (N := ["_law_boxes", "_law_size", "_law_marks_here", "_law_due_here", "_law_at", "_law_numbers", "_law_k", "_law_ends", "_law_low", "_law_number"]) (sc := defScope s__law_due) (by decide +kernel)) (fun _ _ _ _ _ => (g_name (i := 6) sc__law_due.nd rfl (.inl rfl))) (fun _ _ _ _ _ => (ts_one (t_cmpZ (op_eqD hr.units) sEq (z_ix ix_seq sIx (z_var (pv 2)) (z_var (pv 6))) (z_var (pv 4))))) (fun _ _ _ _ _ c => (e_var (pv 6))))
    (s_cons (s_set (i := 7) sc__law_due.nd rfl (.inl rfl) (e_lst a_nil))
    (s_cons (s_for c (i_range1 (by rfl) T.range (a_cons (e_var (pv 1)) a_nil)) (g_name (i := 6) sc__law_due.nd rfl (.inr rfl)) (s_cons (s_set (i := 8) sc__law_due.nd rfl (.inl rfl) (e_callB (cr_min c.calm) sMinL (by rfl) T.min_ (by decide +kernel) (a_cons (e_lc (own := [("_law_number", 9)]) c sc__law_due.nd (i_list (e_var (pv 5))) (blkOk_by (own := [("_law_number", 9)]) (N := ["_law_boxes", "_law_size", "_law_marks_here", "_law_due_here", "_law_at", "_law_numbers", "_law_k", "_law_ends", "_law_low", "_law_number"]) (sc := defScope s__law_due) (by decide +kernel)) (fun _ _ _ _ _ => (g_name (i := 9) sc__law_due.nd rfl (.inl rfl))) (fun _ _ _ _ _ => ts_nil) (fun _ _ _ _ _ c => (e_z (z_ix ix_seq sIx (z_ix ix_seq sIx (z_ix ix_seq sIx (z_var (pv 0)) (z_var (pv 9))) (z_var (pv 6))) z_int)))) a_nil)))
    (s_one (s_app (pv 7) (e_tup (a_cons (e_var (pv 8)) (a_cons (e_callB (cr_max c.calm) sMaxL (by rfl) T.max_ (by decide +kernel) (a_cons (e_lc (own := [("_law_number", 9)]) c sc__law_due.nd (i_list (e_var (pv 5))) (blkOk_by (own := [("_law_number", 9)]) (N := ["_law_boxes", "_law_size", "_law_marks_here", "_law_due_here", "_law_at", "_law_numbers", "_law_k", "_law_ends", "_law_low", "_law_number"]) (sc := defScope s__law_due) (by decide +kernel)) (fun _ _ _ _ _ => (g_name (i := 9) sc__law_due.nd rfl (.inl rfl))) (fun _ _ _ _ _ => ts_nil) (fun _ _ _ _ _ c => (e_z (z_ix ix_seq sIx (z_ix ix_seq sIx (z_ix ix_seq sIx (z_var (pv 0)) (z_var (pv 9))) (z_var (pv 6))) z_int)))) a_nil)) a_nil)))))))
    (s_one (s_app (pv 3) (e_tup (a_cons (e_var (pv 5)) (a_cons (e_var (pv 7)) a_nil)))))))) s_nil)))
    (s_one (s_ret (e_mv (pv 3)))))))
theorem ok_law (T : Tx K mg ca) (G_islands : Fo P w K mg base ca 4 "islands" f_islands) (G__law_box : Fo P w K mg base ca 2 "_law_box" f__law_box) (G__law_alike : Fo P w K mg base ca 16 "_law_alike" f__law_alike) (G__law_cell_at : Fo P w K mg base ca 1 "_law_cell_at" f__law_cell_at) (G__law_far : Fo P w K mg base ca 1 "_law_far" f__law_far) (G__law_due : Fo P w K mg base ca 3 "_law_due" f__law_due) {f : Addr} {fd : FuncData} (F : Fun K "law" "law" s_law f fd) : FnOk P w K mg base (L2.CX P w) 17 f fd ["_law_script"] (spP K ca f_law) :=
  fn_ok F sc_law fun cdv A outer s H E F0 R hr c => (s_cons (s_set (i := 1) sc_law.nd rfl (.inr rfl) (e_op op_add sAdd (e_z z_int) (e_op op_mod sMod (e_call c G__law_cell_at hr (by rfl) (a_cons (e_var (pv 0)) (a_cons (e_z z_int) a_nil))) (e_z z_int))))
    (s_cons (s_set (i := 2) sc_law.nd rfl (.inr rfl) (e_ix ix_seq sIx (e_lst (a_cons (e_z z_int) (a_cons (e_z z_int) (a_cons (e_z z_int) (a_cons (e_z z_int) a_nil))))) (e_op op_mod sMod (e_op op_fdivW sDiv (e_call c G__law_cell_at hr (by rfl) (a_cons (e_var (pv 0)) (a_cons (e_z z_int) a_nil))) (e_z z_int)) (e_z z_int))))
    (s_cons (s_setLc (i := 3) (own := [("_law_cell", 4)]) c sc_law.nd rfl rfl (sw_true rfl rfl rfl (by decide +kernel)) (i_list (e_sliceL (e_var (pv 0)) (pe_some (e_z z_int)) (pe_some (e_z z_int)))) (blkOk_by (own := [("_law_cell", 4)]) (N := ["_law_script", "_law_size", "_law_wide", "_law_boxes", "_law_cell", "_law_moved", "_law_box_here", "_law_handed", "_law_found"]) (sc := defScope s_law) (by decide +kernel)) (fun _ _ _ _ _ => (g_name (i := 4) sc_law.nd rfl (.inl rfl))) (fun _ _ _ _ _ => ts_nil) (fun _ _ _ _ _ c => (e_call c G__law_box hr (by rfl) (a_cons (e_var (pv 4)) (a_cons (e_var (pv 1)) (a_cons (e_var (pv 2)) a_nil))))))
    (s_cons (s_if (t_cmpE (op_eqD hr.units) sEq (e_op op_mod sMod (e_call c G__law_cell_at hr (by rfl) (a_cons (e_var (pv 0)) (a_cons (e_z z_int) a_nil))) (e_z z_int)) (e_z z_int)) (s_cons (s_set (i := 5) sc_law.nd rfl (.inr rfl) (e_op op_mod sMod (e_op op_fdivW sDiv (e_call c G__law_cell_at hr (by rfl) (a_cons (e_var (pv 0)) (a_cons (e_z z_int) a_nil))) (e_z z_int)) (e_z (z_op op_mulW sMul z_int (z_op op_pow sPow z_int z_int)))))
    (s_one (s_setLc (i := 3) (own := [("_law_box_here", 6)]) c sc_law.nd rfl rfl (sw_true rfl rfl rfl (by decide +kernel)) (i_list (e_var (pv 3))) (blkOk_by (own := [("_law_box_here", 6)]) (N := ["_law_script", "_law_size", "_law_wide", "_law_boxes", "_law_cell", "_law_moved", "_law_box_here", "_law_handed", "_law_found"]) (sc := defScope s_law) (by decide +kernel)) (fun _ _ _ _ _ => (g_name (i := 6) sc_law.nd rfl (.inl rfl))) (fun _ _ _ _ _ => ts_nil) (fun _ _ _ _ _ c => (e_call c G__law_far hr (by rfl) (a_cons (e_var (pv 6)) (a_cons (e_z (z_op op_pow sPow z_int z_int)) (a_cons (e_var (pv 5)) a_nil)))))))) s_nil)
    (s_cons (s_setLc (i := 7) (own := [("_law_box_here", 6)]) c sc_law.nd rfl rfl (sw_true rfl rfl rfl (by decide +kernel)) (i_list (e_var (pv 3))) (blkOk_by (own := [("_law_box_here", 6)]) (N := ["_law_script", "_law_size", "_law_wide", "_law_boxes", "_law_cell", "_law_moved", "_law_box_here", "_law_handed", "_law_found"]) (sc := defScope s_law) (by decide +kernel)) (fun _ _ _ _ _ => (g_name (i := 6) sc_law.nd rfl (.inl rfl))) (fun _ _ _ _ _ => ts_nil) (fun _ _ _ _ _ c => (e_lstOf (by rfl) T.list_ (by decide +kernel) (a_cons (e_var (pv 6)) a_nil))))
    (s_cons (s_set (i := 8) sc_law.nd rfl (.inl rfl) (e_call c G_islands hr (by rfl) (a_cons (e_var (pv 7)) a_nil)))
    (s_one (s_ret (e_and (e_call c G__law_alike hr (by rfl) (a_cons (e_var (pv 8)) (a_cons (e_call c G__law_due hr (by rfl) (a_cons (e_var (pv 3)) (a_cons (e_var (pv 1)) a_nil))) a_nil))) (e_one (e_z (z_cmp (op_eqD hr.units) sEq (z_var (pv 7)) (z_var (pv 3))))))))))))))
theorem repL_ints {K : PySem.W.Frag} {ca : Str → Addr} {F : Hp} : ∀ ns : List Int, RepL K ca F (ns.map D.int) (ns.map V.int)
  | [] => rfl
  | i :: r => ⟨.int i, r.map V.int, rfl, rfl, repL_ints r⟩
theorem cx_none {P : Program} {w : World} {H : Hp} {s : Shared} {e : Value} {s' : Shared} (h : L2.CX P w [] H s (fun _ _ _ => False) e s') : False := by
  obtain ⟨_, _, _, _, _, _, _, _, _, _, _, _, z⟩ := h
  exact z
def spL (K : PySem.W.Frag) : Sp := fun vs H Q _ => ∃ (a : Addr) (ns : List Int), vs = [.ref a] ∧ ns.length ≤ 63 ∧ SqL K H a (ns.map V.int) ∧ ∀ H', Q (.bl true) H'
theorem sp_law {K : PySem.W.Frag} {ca : Str → Addr} (hl : ∀ ns : List Int, ns.length ≤ 63 → f_law [.cst (ns.map D.int)] = .ok (.bl true)) (vs : List V) (H : Hp) (Q : VK) (E : XK) (h : spL K vs H Q E) : spP K ca f_law vs H Q E := by
  obtain ⟨a, ns, rfl, hn, hS, q⟩ := h
  refine ⟨H, [.cst (ns.map D.int)], Same.refl _, ⟨.ref a, [], rfl, ⟨a, _, rfl, hS, repL_ints ns⟩, rfl⟩, ?_⟩
  rw [hl ns hn]
  intro v F' H' f _ _ _ hv _ _ _
  cases (show v = .bl true from hv.1)
  exact q H'

--HRUNB
end
section
variable {P : Program} {w : World} {K : PySem.W.Frag} {mg : Str → Option Value} {base : Heap} {ca : Str → Addr}
set_option maxHeartbeats 0 in
theorem facts {l : PySem.W.OpenLaw} {w : World} {K : PySem.W.Frag} {h : Heap} {mg : Str → Option Value} {fa : Addr} (X : K.In h) (G : h.Ns mainGlobals mg) (hfa0 : mg "law" = some (.ref fa)) (c : He.SaysE hfa hfn K) (he : hex K = true)
    : ∃ fd : FuncData, (∀ (s : Shared) (v : Value), BindsTo s fd ⟨[v], []⟩ [("_law_script", v)]) ∧ ∀ base : Heap, K.In base → base.Ns mainGlobals mg → FnOk l.prog w K mg base (L2.CX l.prog w) 17 fa fd ["_law_script"] (spL K) := by
  have hfa := hfa0
  obtain ⟨oc0, od0, sl0, kV0, dc0, pm0, an0, cd0, ct0, l0, c0⟩ := c.def_ 0 (d := fd0) rfl
  have a0 : PySem.W.nsIn K mainGlobals "common" = some (some (.ref (He.ga K "common"))) := eqO' (c.fact 0 (f := .glo "common") rfl)
  have k0 : PySem.W.keepIn K (.ref (He.ga K "common")) = true := (c.fact 1 (f := .keep "common") rfl)
  obtain ⟨oc1, od1, sl1, kV1, dc1, pm1, an1, cd1, ct1, l1, c1⟩ := c.def_ 1 (d := fd1) rfl
  have a1 : PySem.W.nsIn K mainGlobals "touch" = some (some (.ref (He.ga K "touch"))) := eqO' (c.fact 2 (f := .glo "touch") rfl)
  have k1 : PySem.W.keepIn K (.ref (He.ga K "touch")) = true := (c.fact 3 (f := .keep "touch") rfl)
  obtain ⟨oc2, od2, sl2, kV2, dc2, pm2, an2, cd2, ct2, l2, c2⟩ := c.def_ 2 (d := fd2) rfl
  have a2 : PySem.W.nsIn K mainGlobals "grown_from" = some (some (.ref (He.ga K "grown_from"))) := eqO' (c.fact 4 (f := .glo "grown_from") rfl)
  have k2 : PySem.W.keepIn K (.ref (He.ga K "grown_from")) = true := (c.fact 5 (f := .keep "grown_from") rfl)
  obtain ⟨oc3, od3, sl3, kV3, dc3, pm3, an3, cd3, ct3, l3, c3⟩ := c.def_ 3 (d := fd3) rfl
  have a3 : PySem.W.nsIn K mainGlobals "hull" = some (some (.ref (He.ga K "hull"))) := eqO' (c.fact 6 (f := .glo "hull") rfl)
  have k3 : PySem.W.keepIn K (.ref (He.ga K "hull")) = true := (c.fact 7 (f := .keep "hull") rfl)
  obtain ⟨oc4, od4, sl4, kV4, dc4, pm4, an4, cd4, ct4, l4, c4⟩ := c.def_ 4 (d := fd4) rfl
  have a4 : PySem.W.nsIn K mainGlobals "hull_of" = some (some (.ref (He.ga K "hull_of"))) := eqO' (c.fact 8 (f := .glo "hull_of") rfl)
  have k4 : PySem.W.keepIn K (.ref (He.ga K "hull_of")) = true := (c.fact 9 (f := .keep "hull_of") rfl)
  obtain ⟨oc5, od5, sl5, kV5, dc5, pm5, an5, cd5, ct5, l5, c5⟩ := c.def_ 5 (d := fd5) rfl
  have a5 : PySem.W.nsIn K mainGlobals "islands" = some (some (.ref (He.ga K "islands"))) := eqO' (c.fact 10 (f := .glo "islands") rfl)
  have k5 : PySem.W.keepIn K (.ref (He.ga K "islands")) = true := (c.fact 11 (f := .keep "islands") rfl)
  obtain ⟨oc6, od6, sl6, kV6, dc6, pm6, an6, cd6, ct6, l6, c6⟩ := c.def_ 6 (d := fd6) rfl
  have a6 : PySem.W.nsIn K mainGlobals "_law_mix" = some (some (.ref (He.ga K "_law_mix"))) := eqO' (c.fact 12 (f := .glo "_law_mix") rfl)
  have k6 : PySem.W.keepIn K (.ref (He.ga K "_law_mix")) = true := (c.fact 13 (f := .keep "_law_mix") rfl)
  obtain ⟨oc7, od7, sl7, kV7, dc7, pm7, an7, cd7, ct7, l7, c7⟩ := c.def_ 7 (d := fd7) rfl
  have a7 : PySem.W.nsIn K mainGlobals "_law_box" = some (some (.ref (He.ga K "_law_box"))) := eqO' (c.fact 14 (f := .glo "_law_box") rfl)
  have k7 : PySem.W.keepIn K (.ref (He.ga K "_law_box")) = true := (c.fact 15 (f := .keep "_law_box") rfl)
  obtain ⟨oc8, od8, sl8, kV8, dc8, pm8, an8, cd8, ct8, l8, c8⟩ := c.def_ 8 (d := fd8) rfl
  have a8 : PySem.W.nsIn K mainGlobals "_law_whole" = some (some (.ref (He.ga K "_law_whole"))) := eqO' (c.fact 16 (f := .glo "_law_whole") rfl)
  have k8 : PySem.W.keepIn K (.ref (He.ga K "_law_whole")) = true := (c.fact 17 (f := .keep "_law_whole") rfl)
  obtain ⟨oc9, od9, sl9, kV9, dc9, pm9, an9, cd9, ct9, l9, c9⟩ := c.def_ 9 (d := fd9) rfl
  have a9 : PySem.W.nsIn K mainGlobals "_law_alike" = some (some (.ref (He.ga K "_law_alike"))) := eqO' (c.fact 18 (f := .glo "_law_alike") rfl)
  have k9 : PySem.W.keepIn K (.ref (He.ga K "_law_alike")) = true := (c.fact 19 (f := .keep "_law_alike") rfl)
  obtain ⟨oc10, od10, sl10, kV10, dc10, pm10, an10, cd10, ct10, l10, c10⟩ := c.def_ 10 (d := fd10) rfl
  have a10 : PySem.W.nsIn K mainGlobals "_law_cell_at" = some (some (.ref (He.ga K "_law_cell_at"))) := eqO' (c.fact 20 (f := .glo "_law_cell_at") rfl)
  have k10 : PySem.W.keepIn K (.ref (He.ga K "_law_cell_at")) = true := (c.fact 21 (f := .keep "_law_cell_at") rfl)
  obtain ⟨oc11, od11, sl11, kV11, dc11, pm11, an11, cd11, ct11, l11, c11⟩ := c.def_ 11 (d := fd11) rfl
  have a11 : PySem.W.nsIn K mainGlobals "_law_far" = some (some (.ref (He.ga K "_law_far"))) := eqO' (c.fact 22 (f := .glo "_law_far") rfl)
  have k11 : PySem.W.keepIn K (.ref (He.ga K "_law_far")) = true := (c.fact 23 (f := .keep "_law_far") rfl)
  obtain ⟨oc12, od12, sl12, kV12, dc12, pm12, an12, cd12, ct12, l12, c12⟩ := c.def_ 12 (d := fd12) rfl
  have a12 : PySem.W.nsIn K mainGlobals "_law_touch" = some (some (.ref (He.ga K "_law_touch"))) := eqO' (c.fact 24 (f := .glo "_law_touch") rfl)
  have k12 : PySem.W.keepIn K (.ref (He.ga K "_law_touch")) = true := (c.fact 25 (f := .keep "_law_touch") rfl)
  obtain ⟨oc13, od13, sl13, kV13, dc13, pm13, an13, cd13, ct13, l13, c13⟩ := c.def_ 13 (d := fd13) rfl
  have a13 : PySem.W.nsIn K mainGlobals "_law_marks" = some (some (.ref (He.ga K "_law_marks"))) := eqO' (c.fact 26 (f := .glo "_law_marks") rfl)
  have k13 : PySem.W.keepIn K (.ref (He.ga K "_law_marks")) = true := (c.fact 27 (f := .keep "_law_marks") rfl)
  obtain ⟨oc14, od14, sl14, kV14, dc14, pm14, an14, cd14, ct14, l14, c14⟩ := c.def_ 14 (d := fd14) rfl
  have a14 : PySem.W.nsIn K mainGlobals "_law_due" = some (some (.ref (He.ga K "_law_due"))) := eqO' (c.fact 28 (f := .glo "_law_due") rfl)
  have k14 : PySem.W.keepIn K (.ref (He.ga K "_law_due")) = true := (c.fact 29 (f := .keep "_law_due") rfl)
  obtain ⟨oc15, od15, sl15, kV15, dc15, pm15, an15, cd15, ct15, l15, c15⟩ := c.def_ 15 (d := fd15) rfl
  have a15 : PySem.W.nsIn K mainGlobals "law" = some (some (.ref (He.ga K "law"))) := eqO' (c.fact 30 (f := .glo "law") rfl)
  have k15 : PySem.W.keepIn K (.ref (He.ga K "law")) = true := (c.fact 31 (f := .keep "law") rfl)
  have z_all_ : PySem.W.nsIn K mainGlobals "all" = some none := eqO' (c.fact 32 (f := .free "all") rfl)
  have z_bool_ : PySem.W.nsIn K mainGlobals "bool" = some none := eqO' (c.fact 33 (f := .free "bool") rfl)
  have z_enumerate : PySem.W.nsIn K mainGlobals "enumerate" = some none := eqO' (c.fact 34 (f := .free "enumerate") rfl)
  have z_int_ : PySem.W.nsIn K mainGlobals "int" = some none := eqO' (c.fact 35 (f := .free "int") rfl)
  have z_isinstance : PySem.W.nsIn K mainGlobals "isinstance" = some none := eqO' (c.fact 36 (f := .free "isinstance") rfl)
  have z_len_ : PySem.W.nsIn K mainGlobals "len" = some none := eqO' (c.fact 37 (f := .free "len") rfl)
  have z_list_ : PySem.W.nsIn K mainGlobals "list" = some none := eqO' (c.fact 38 (f := .free "list") rfl)
  have z_max_ : PySem.W.nsIn K mainGlobals "max" = some none := eqO' (c.fact 39 (f := .free "max") rfl)
  have z_min_ : PySem.W.nsIn K mainGlobals "min" = some none := eqO' (c.fact 40 (f := .free "min") rfl)
  have z_range : PySem.W.nsIn K mainGlobals "range" = some none := eqO' (c.fact 41 (f := .free "range") rfl)
  have z_sorted : PySem.W.nsIn K mainGlobals "sorted" = some none := eqO' (c.fact 42 (f := .free "sorted") rfl)
  have z_str_ : PySem.W.nsIn K mainGlobals "str" = some none := eqO' (c.fact 43 (f := .free "str") rfl)
  have z_tuple_ : PySem.W.nsIn K mainGlobals "tuple" = some none := eqO' (c.fact 44 (f := .free "tuple") rfl)
  have e := hfa.symm.trans (PySem.W.mg_of X G a15)
  cases e
  have F0 := fun_mk (st := s_common) l0 c0 k0
  have b0 := F0.binds (ps := ["a", "b"]) fun _ _ _ _ _ _ us hl => match us, hl with | [_, _], _ => rfl
  have F1 := fun_mk (st := s_touch) l1 c1 k1
  have b1 := F1.binds (ps := ["one", "other"]) fun _ _ _ _ _ _ us hl => match us, hl with | [_, _], _ => rfl
  have F2 := fun_mk (st := s_grown_from) l2 c2 k2
  have b2 := F2.binds (ps := ["boxes", "first"]) fun _ _ _ _ _ _ us hl => match us, hl with | [_, _], _ => rfl
  have F3 := fun_mk (st := s_hull) l3 c3 k3
  have b3 := F3.binds (ps := ["a", "b"]) fun _ _ _ _ _ _ us hl => match us, hl with | [_, _], _ => rfl
  have F4 := fun_mk (st := s_hull_of) l4 c4 k4
  have b4 := F4.binds (ps := ["boxes", "numbers"]) fun _ _ _ _ _ _ us hl => match us, hl with | [_, _], _ => rfl
  have F5 := fun_mk (st := s_islands) l5 c5 k5
  have b5 := F5.binds (ps := ["boxes"]) fun _ _ _ _ _ _ us hl => match us, hl with | [_], _ => rfl
  have F6 := fun_mk (st := s__law_mix) l6 c6 k6
  have b6 := F6.binds (ps := ["_law_cell", "_law_k"]) fun _ _ _ _ _ _ us hl => match us, hl with | [_, _], _ => rfl
  have F7 := fun_mk (st := s__law_box) l7 c7 k7
  have b7 := F7.binds (ps := ["_law_cell", "_law_size", "_law_wide"]) fun _ _ _ _ _ _ us hl => match us, hl with | [_, _, _], _ => rfl
  have F8 := fun_mk (st := s__law_whole) l8 c8 k8
  have b8 := F8.binds (ps := ["_law_found"]) fun _ _ _ _ _ _ us hl => match us, hl with | [_], _ => rfl
  have F9 := fun_mk (st := s__law_alike) l9 c9 k9
  have b9 := F9.binds (ps := ["_law_found", "_law_due_here"]) fun _ _ _ _ _ _ us hl => match us, hl with | [_, _], _ => rfl
  have F10 := fun_mk (st := s__law_cell_at) l10 c10 k10
  have b10 := F10.binds (ps := ["_law_script", "_law_k"]) fun _ _ _ _ _ _ us hl => match us, hl with | [_, _], _ => rfl
  have F11 := fun_mk (st := s__law_far) l11 c11 k11
  have b11 := F11.binds (ps := ["_law_box_here", "_law_factor", "_law_moved"]) fun _ _ _ _ _ _ us hl => match us, hl with | [_, _, _], _ => rfl
  have F12 := fun_mk (st := s__law_touch) l12 c12 k12
  have b12 := F12.binds (ps := ["_law_one", "_law_other"]) fun _ _ _ _ _ _ us hl => match us, hl with | [_, _], _ => rfl
  have F13 := fun_mk (st := s__law_marks) l13 c13 k13
  have b13 := F13.binds (ps := ["_law_boxes"]) fun _ _ _ _ _ _ us hl => match us, hl with | [_], _ => rfl
  have F14 := fun_mk (st := s__law_due) l14 c14 k14
  have b14 := F14.binds (ps := ["_law_boxes", "_law_size"]) fun _ _ _ _ _ _ us hl => match us, hl with | [_, _], _ => rfl
  have F15 := fun_mk (st := s_law) l15 c15 k15
  have b15 := F15.binds (ps := ["_law_script"]) fun _ _ _ _ _ _ us hl => match us, hl with | [_], _ => rfl
  have T : Tx K mg (fun _ => 0) := { all_ := PySem.W.mg_none_of X G z_all_, bool_ := PySem.W.mg_none_of X G z_bool_, enumerate := PySem.W.mg_none_of X G z_enumerate, int_ := PySem.W.mg_none_of X G z_int_, isinstance := PySem.W.mg_none_of X G z_isinstance, len_ := PySem.W.mg_none_of X G z_len_, list_ := PySem.W.mg_none_of X G z_list_, max_ := PySem.W.mg_none_of X G z_max_, min_ := PySem.W.mg_none_of X G z_min_, range := PySem.W.mg_none_of X G z_range, sorted := PySem.W.mg_none_of X G z_sorted, str_ := PySem.W.mg_none_of X G z_str_, tuple_ := PySem.W.mg_none_of X G z_tuple_ }
  refine ⟨PySem.W.fnOf "law" "law" (defArgs s_law) (defBody s_law) (defScope s_law) .none kV15 dc15 pm15 an15 cd15 ct15, fun s v => .of_eq rfl, fun base _ _ => ?_⟩
  have G_common : Fo l.prog w K mg base (fun _ => 0) 1 "common" f_common := fo_of F0 (PySem.W.mg_of X G a0) b0 (ok_common T  F0)
  have G_touch : Fo l.prog w K mg base (fun _ => 0) 2 "touch" f_touch := fo_of F1 (PySem.W.mg_of X G a1) b1 (ok_touch T G_common F1)
  have G_grown_from : Fo l.prog w K mg base (fun _ => 0) 3 "grown_from" f_grown_from := fo_of F2 (PySem.W.mg_of X G a2) b2 (ok_grown_from T G_touch F2)
  have G_hull : Fo l.prog w K mg base (fun _ => 0) 1 "hull" f_hull := fo_of F3 (PySem.W.mg_of X G a3) b3 (ok_hull T  F3)
  have G_hull_of : Fo l.prog w K mg base (fun _ => 0) 2 "hull_of" f_hull_of := fo_of F4 (PySem.W.mg_of X G a4) b4 (ok_hull_of T G_hull F4)
  have G_islands : Fo l.prog w K mg base (fun _ => 0) 4 "islands" f_islands := fo_of F5 (PySem.W.mg_of X G a5) b5 (ok_islands T G_grown_from G_hull_of F5)
  have G__law_mix : Fo l.prog w K mg base (fun _ => 0) 1 "_law_mix" f__law_mix := fo_of F6 (PySem.W.mg_of X G a6) b6 (ok__law_mix T  F6)
  have G__law_box : Fo l.prog w K mg base (fun _ => 0) 2 "_law_box" f__law_box := fo_of F7 (PySem.W.mg_of X G a7) b7 (ok__law_box T G__law_mix F7)
  have G__law_whole : Fo l.prog w K mg base (fun _ => 0) 1 "_law_whole" f__law_whole := fo_of F8 (PySem.W.mg_of X G a8) b8 (ok__law_whole T  F8)
  have R__law_alike : ∀ n : Nat, Fo l.prog w K mg base (fun _ => 0) (n * 2) "_law_alike" (fr__law_alike n) := by
    intro n
    induction n with
    | zero => exact fo_bad F9 (PySem.W.mg_of X G a9) b9
    | succ n ih =>
      have G__law_alike := ih
      exact (fo_of F9 (PySem.W.mg_of X G a9) b9 (ok__law_alike T G__law_whole G__law_alike F9)).at (by omega)
  have G__law_alike := R__law_alike 8
  replace G__law_alike : Fo l.prog w K mg base (fun _ => 0) 16 "_law_alike" f__law_alike := G__law_alike
  have G__law_cell_at : Fo l.prog w K mg base (fun _ => 0) 1 "_law_cell_at" f__law_cell_at := fo_of F10 (PySem.W.mg_of X G a10) b10 (ok__law_cell_at T  F10)
  have G__law_far : Fo l.prog w K mg base (fun _ => 0) 1 "_law_far" f__law_far := fo_of F11 (PySem.W.mg_of X G a11) b11 (ok__law_far T  F11)
  have G__law_touch : Fo l.prog w K mg base (fun _ => 0) 1 "_law_touch" f__law_touch := fo_of F12 (PySem.W.mg_of X G a12) b12 (ok__law_touch T  F12)
  have G__law_marks : Fo l.prog w K mg base (fun _ => 0) 2 "_law_marks" f__law_marks := fo_of F13 (PySem.W.mg_of X G a13) b13 (ok__law_marks T G__law_touch F13)
  have G__law_due : Fo l.prog w K mg base (fun _ => 0) 3 "_law_due" f__law_due := fo_of F14 (PySem.W.mg_of X G a14) b14 (ok__law_due T G__law_marks F14)
  exact (ok_law T G_islands G__law_box G__law_alike G__law_cell_at G__law_far G__law_due F15).imp fun vs H Q E hs => sp_law law_true vs H Q E hs
end
end Lw
open PySem PySem.W PySem.Calls PyProof.Rows
set_option maxHeartbeats 0 in
theorem PySem.Challenge.cw_boxnarrow_k72_islands_holds : PySem.Challenge.rw_boxnarrow_k72_islands.Holds := by
  w_on; o_law
  refine HandSHeadRun.head_any (r := (OpenLaw.row PySem.Challenge.rw_boxnarrow_k72_islands)) (q := view (OpenLaw.row PySem.Challenge.rw_boxnarrow_k72_islands).prog [18]) (H := Lw.hk) (ob := Lw.hob) (loose := Lw.hnames) (d := HandSHeadRun.topDef (OpenLaw.row PySem.Challenge.rw_boxnarrow_k72_islands).prog 18) (kwd := []) Lw.hob_eq (by kernel_rfl) (fun s => by kernel_rfl) Lw.hrun (by kernel_rfl) (by kernel_rfl) (by kernel_rfl) (by rfl) (by first | assumption | decide +kernel) (by decide +kernel) ⟨rfl, rfl, rfl, rfl, rfl, by decide +kernel⟩ ?hw ?hc
  case hw => w_witness2
  case hc =>
    refine Bn.walkB (l := PySem.Challenge.rw_boxnarrow_k72_islands) (n := 63) (k := 17) (x := "_law_script") (CX := fun w => L2.CX PySem.Challenge.rw_boxnarrow_k72_islands.prog w) rfl (by decide) (by kernel_rfl) ⟨rfl, by decide, by decide⟩ ?F (fun _ _ _ _ _ h => Lw.cx_none h)
    intro w mg fa h Y G hmg0
    obtain ⟨K, KX, c, e⟩ := Y
    have hmg : mg ("law" : PySem.Str) = some (.ref fa) := by
      have q : (HandSHeadRun.topDef (OpenLaw.row PySem.Challenge.rw_boxnarrow_k72_islands).prog 18).name = ("law" : PySem.Str) := by kernel_rfl
      rw [← q]
      exact hmg0
    obtain ⟨fd, hb, hF⟩ := Lw.facts (l := PySem.Challenge.rw_boxnarrow_k72_islands) (w := w) KX G hmg c e
    exact ⟨K, fd, Lw.spL K, KX, hb, fun H a ns hl _ hS => ⟨a, ns, rfl, hl, hS, fun _ => rfl⟩, hF⟩

