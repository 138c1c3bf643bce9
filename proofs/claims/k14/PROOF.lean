import PyProof.Rows.All
import Wide.All
import OpenK.AllK
import Wide.FinOn
import HandS.ForExc
import HandS.ForMost
import HandS.Wide
import HandS.IsInst
import HandS.ExcIs
import HandS.Deep
import HandS.SortInts
import HandS.TupLe
import HandS.Rev
import HandS.More
import HandS.Iter
import HandS.Zip0
import HandS.Head0
import HandS.Head1
import HandS.Head2
import HandS.HeadHook1
import HandS.HeadHook2
import HandS.Codes
import KE.SortData
import HandS.Conv
import HandS.WordsDict
import PySem.Challenge.RW_boxnarrow_k14_nodes_put
set_option Elab.async false
set_option linter.all false
set_option maxRecDepth 100000
set_option maxHeartbeats 2000000
namespace Bn
open PySem PySem.Spec PyProof.Rows L2
open HandSHeadRun (frNat frNat_eq)
section
variable {α : Type}
end
def RunQ {β : Type} (r : PySem.W.OpenRow) (M : Nat) (w : World) (q : PySem.W.SharedT → β) (v : β) : Prop :=
  ∀ os : OsState, (HandSHeadRun.endF (HandSHeadRun.stepQ (HandSHeadRun.denQ HandSHeadRun.tabQ) r.prog w) M r.prog w os).map q = some v
theorem RunQ.and {β γ : Type} {r : PySem.W.OpenRow} {M : Nat} {w : World} {q1 : PySem.W.SharedT → β} {v1 : β} {q2 : PySem.W.SharedT → γ} {v2 : γ} (h1 : RunQ r M w q1 v1) (h2 : RunQ r M w q2 v2) : RunQ r M w (fun s => (q1 s, q2 s)) (v1, v2) := by
  intro os
  have e1 := h1 os
  have e2 := h2 os
  revert e1 e2
  generalize HandSHeadRun.endF _ M r.prog w os = o
  intro e1 e2
  cases o with
  | none => cases e1
  | some s =>
    have f1 : q1 s = v1 := Option.some.inj e1
    have f2 : q2 s = v2 := Option.some.inj e2
    show some (q1 s, q2 s) = _
    rw [f1, f2]
theorem RunQ.to {β γ : Type} {r : PySem.W.OpenRow} {M : Nat} {w : World} {q : PySem.W.SharedT → β} {v : β} {p : PySem.W.SharedT → γ} {u : γ} (h : RunQ r M w q v) (t : ∀ s, q s = v → p s = u) : RunQ r M w p u := by
  intro os
  have e := h os
  revert e
  generalize HandSHeadRun.endF _ M r.prog w os = o
  intro e
  cases o with
  | none => cases e
  | some s =>
    have f : q s = v := Option.some.inj e
    show some (p s) = _
    rw [t s f]
end Bn
namespace Lw
open PySem PySem.Spec PyProof.Rows L2
def topS (i : Nat) : Stmt := PySem.Challenge.pw_boxnarrow_k14_nodes_put.main.body.getD i (.Pass ⟨0, 0, 0, 0⟩)
abbrev s__law_whole : Stmt := topS 12
abbrev s_Net_nodes : Stmt := inClass (topS 8) 3
abbrev s__law_listed : Stmt := topS 17
abbrev s__law_cell_at : Stmt := topS 11
abbrev s_weight_of : Stmt := topS 9
abbrev s_Net_put : Stmt := inClass (topS 8) 1
abbrev s__law_put : Stmt := topS 15
abbrev s__law_weight : Stmt := topS 14
abbrev s__law_step : Stmt := topS 16
abbrev s__law_node : Stmt := topS 13
abbrev s_Net___init__ : Stmt := inClass (topS 8) 0
abbrev s_Net_weight : Stmt := inClass (topS 8) 4
abbrev s_law : Stmt := topS 18
end Lw
namespace Bn
open PySem PySem.Spec PyProof.Rows L2
inductive D where
  | non | bl (b : Bool) | int (i : Int) | str (s : Str) | ty (n : String)
  | tup (xs : List D)
  | lst (m : Bool) (xs : List D)
  | cst (xs : List D)
  | obj (m : Bool) (c : Str) (ns : List Str) (xs : List D)
  | val (v : V)
  | tpo (xs : List D)
  | dct (m : Bool) (ks : List Key) (xs : List D)
  deriving Inhabited
abbrev Env := List (Option D)
abbrev Ct := Addr → Nat
def isFz : D → Bool
  | .lst true _ => false
  | .obj true _ _ _ => false
  | .tpo _ => false
  | .dct true _ _ => false
  | _ => true
mutual
def freeze : D → D
  | .lst true xs => .lst false (freezeL xs)
  | .lst false xs => .lst false xs
  | .obj true c ns xs => .obj false c ns (freezeL xs)
  | .obj false c ns xs => .obj false c ns xs
  | .tpo xs => .tup (freezeL xs)
  | .dct true ks xs => .dct false ks (freezeL xs)
  | .dct false ks xs => .dct false ks xs
  | .val v => .val v
  | .non => .non | .bl b => .bl b | .int i => .int i | .str s => .str s | .ty n => .ty n | .tup xs => .tup xs | .cst xs => .cst xs
def freezeL : List D → List D
  | [] => []
  | x :: xs => freeze x :: freezeL xs
end
section
variable (K : PySem.W.Frag) (ca : Str → Addr)
mutual
def Rep (F : Hp) : D → V → Prop
  | .non, v => v = .non
  | .bl b, v => v = .bl b
  | .int i, v => v = .int i
  | .str s, v => v = .str s
  | .ty n, v => v = .ty n
  | .val w, v => v = w
  | .tpo _, _ => False
  | .dct true _ _, _ => False
  | .dct false ks ds, v => ∃ a vs, v = .ref a ∧ F a = some (.dK (ks.zip vs)) ∧ ks.length = vs.length ∧ RepL F ds vs
  | .tup ds, v => ∃ a vs, v = .ref a ∧ SqT K F a vs ∧ RepL F ds vs
  | .lst true _, _ => False
  | .lst false ds, v => ∃ a vs, v = .ref a ∧ F a = some (.lst vs) ∧ RepL F ds vs
  | .cst ds, v => ∃ a vs, v = .ref a ∧ SqL K F a vs ∧ RepL F ds vs
  | .obj true _ _ _, _ => False
  | .obj false c ns ds, v => ∃ a dx fs vs, v = .ref a ∧ F a = some (.ins (ca c) dx fs) ∧ fs = ns.zip vs ∧ ns.length = vs.length ∧ RepL F ds vs
def RepL (F : Hp) : List D → List V → Prop
  | [], vs => vs = []
  | d :: ds, vs => ∃ v r, vs = v :: r ∧ Rep F d v ∧ RepL F ds r
end
mutual
def RepO (F H : Hp) : D → V → Ct → Prop
  | .lst true ds, v, f => ∃ a vs g, v = .ref a ∧ H a = some (.lst vs) ∧ RepOs F H ds vs g ∧ ∀ b, f b = (if b = a then 1 else 0) + g b
  | .obj true c ns ds, v, f => ∃ a dx fs vs g, v = .ref a ∧ H a = some (.ins (ca c) dx fs) ∧ fs = ns.zip vs ∧ ns.length = vs.length ∧ RepOs F H ds vs g ∧ ∀ b, f b = (if b = a then 1 else 0) + g b
  | .lst false ds, v, f => Rep K ca F (.lst false ds) v ∧ ∀ b, f b = 0
  | .obj false c ns ds, v, f => Rep K ca F (.obj false c ns ds) v ∧ ∀ b, f b = 0
  | .non, v, f => Rep K ca F .non v ∧ ∀ b, f b = 0
  | .bl x, v, f => Rep K ca F (.bl x) v ∧ ∀ b, f b = 0
  | .int x, v, f => Rep K ca F (.int x) v ∧ ∀ b, f b = 0
  | .str x, v, f => Rep K ca F (.str x) v ∧ ∀ b, f b = 0
  | .ty x, v, f => Rep K ca F (.ty x) v ∧ ∀ b, f b = 0
  | .val x, v, f => Rep K ca F (.val x) v ∧ ∀ b, f b = 0
  | .tpo ds, v, f => ∃ a vs, v = .ref a ∧ SqT K F a vs ∧ RepOs F H ds vs f
  | .dct true ks ds, v, f => ∃ a vs g, v = .ref a ∧ H a = some (.dK (ks.zip vs)) ∧ ks.length = vs.length ∧ RepOs F H ds vs g ∧ ∀ b, f b = (if b = a then 1 else 0) + g b
  | .dct false ks ds, v, f => Rep K ca F (.dct false ks ds) v ∧ ∀ b, f b = 0
  | .tup x, v, f => Rep K ca F (.tup x) v ∧ ∀ b, f b = 0
  | .cst x, v, f => Rep K ca F (.cst x) v ∧ ∀ b, f b = 0
def RepOs (F H : Hp) : List D → List V → Ct → Prop
  | [], vs, f => vs = [] ∧ ∀ b, f b = 0
  | d :: ds, vs, f => ∃ v r f1 f2, vs = v :: r ∧ RepO F H d v f1 ∧ RepOs F H ds r f2 ∧ ∀ b, f b = f1 b + f2 b
end
end
section
variable {K : PySem.W.Frag} {ca : Str → Addr} {F F' H H' : Hp}
theorem sqT_same {K : PySem.W.Frag} {H H' : Hp} {a : Addr} {xs : List V} (e : Same H H') (h : SqT K H a xs) : SqT K H' a xs := by
  rcases h with (h | ⟨o, h⟩) | h
  · exact .inl (.inl (e _ _ h))
  · exact .inl (.inr ⟨o, e _ _ h⟩)
  · exact .inr h
mutual
theorem Rep.mono (e : Same F F') : ∀ (d : D) (v : V), Rep K ca F d v → Rep K ca F' d v
  | .non, _, h => h
  | .bl _, _, h => h
  | .int _, _, h => h
  | .str _, _, h => h
  | .ty _, _, h => h
  | .val _, _, h => h
  | .tpo _, _, h => h
  | .dct true _ _, _, h => h
  | .dct false ks ds, v, h => by
    obtain ⟨a, vs, h1, h2, h3, h4⟩ := h
    exact ⟨a, vs, h1, e _ _ h2, h3, RepL.mono e ds vs h4⟩
  | .tup ds, v, h => by
    obtain ⟨a, vs, h1, h2, h3⟩ := h
    exact ⟨a, vs, h1, sqT_same e h2, RepL.mono e ds vs h3⟩
  | .lst true _, _, h => h
  | .lst false ds, v, h => by
    obtain ⟨a, vs, h1, h2, h3⟩ := h
    exact ⟨a, vs, h1, e _ _ h2, RepL.mono e ds vs h3⟩
  | .cst ds, v, h => by
    obtain ⟨a, vs, h1, h2, h3⟩ := h
    exact ⟨a, vs, h1, e.seq h2, RepL.mono e ds vs h3⟩
  | .obj true _ _ _, _, h => h
  | .obj false c ns ds, v, h => by
    obtain ⟨a, dx, fs, vs, h1, h2, h3, h4, h5⟩ := h
    exact ⟨a, dx, fs, vs, h1, e _ _ h2, h3, h4, RepL.mono e ds vs h5⟩
theorem RepL.mono (e : Same F F') : ∀ (ds : List D) (vs : List V), RepL K ca F ds vs → RepL K ca F' ds vs
  | [], _, h => h
  | d :: ds, _, h => by
    obtain ⟨v, r, h1, h2, h3⟩ := h
    exact ⟨v, r, h1, Rep.mono e d v h2, RepL.mono e ds r h3⟩
end
theorem repO_fz {d : D} (hd : isFz d = true) {v : V} {f : Ct} : RepO K ca F H d v f ↔ (Rep K ca F d v ∧ ∀ b, f b = 0) := by
  cases d with
  | lst m xs => cases m with
    | true => cases hd
    | false => exact Iff.rfl
  | obj m c ns xs => cases m with
    | true => cases hd
    | false => exact Iff.rfl
  | tpo xs => cases hd
  | dct m ks xs => cases m with
    | true => cases hd
    | false => exact Iff.rfl
  | _ => exact Iff.rfl
theorem rep_isFz {d : D} {v : V} (h : Rep K ca F d v) : isFz d = true := by
  cases d with
  | lst m xs => cases m with
    | true => exact h.elim
    | false => rfl
  | obj m c ns xs => cases m with
    | true => exact h.elim
    | false => rfl
  | tpo xs => exact h.elim
  | dct m ks xs => cases m with
    | true => exact h.elim
    | false => rfl
  | _ => rfl
theorem Rep.o {d : D} {v : V} (h : Rep K ca F d v) : RepO K ca F H d v (fun _ => 0) := (repO_fz (rep_isFz h)).mpr ⟨h, fun _ => rfl⟩
theorem RepL.os : ∀ {ds : List D} {vs : List V}, RepL K ca F ds vs → RepOs K ca F H ds vs (fun _ => 0)
  | [], _, h => ⟨h, fun _ => rfl⟩
  | _ :: _, _, ⟨v, r, h1, h2, h3⟩ => ⟨v, r, _, _, h1, h2.o, h3.os, fun _ => rfl⟩
mutual
theorem RepO.mono (e : Same F F') : ∀ (d : D) (v : V) (f : Ct), (∀ a, 0 < f a → H' a = H a) → RepO K ca F H d v f → RepO K ca F' H' d v f
  | .lst true ds, v, f, k, h => by
    obtain ⟨a, vs, g, h1, h2, h3, h4⟩ := h
    refine ⟨a, vs, g, h1, (k a (by rw [h4, if_pos rfl]; omega)).trans h2, RepOs.mono e ds vs g (fun b hb => k b (by rw [h4]; omega)) h3, h4⟩
  | .obj true c ns ds, v, f, k, h => by
    obtain ⟨a, dx, fs, vs, g, h1, h2, h5, h6, h3, h4⟩ := h
    refine ⟨a, dx, fs, vs, g, h1, (k a (by rw [h4, if_pos rfl]; omega)).trans h2, h5, h6, RepOs.mono e ds vs g (fun b hb => k b (by rw [h4]; omega)) h3, h4⟩
  | .lst false ds, v, f, k, h => ⟨Rep.mono e _ _ h.1, h.2⟩
  | .obj false c ns ds, v, f, k, h => ⟨Rep.mono e _ _ h.1, h.2⟩
  | .non, v, f, k, h => ⟨Rep.mono e _ _ h.1, h.2⟩
  | .bl _, v, f, k, h => ⟨Rep.mono e _ _ h.1, h.2⟩
  | .int _, v, f, k, h => ⟨Rep.mono e _ _ h.1, h.2⟩
  | .str _, v, f, k, h => ⟨Rep.mono e _ _ h.1, h.2⟩
  | .ty _, v, f, k, h => ⟨Rep.mono e _ _ h.1, h.2⟩
  | .val _, v, f, k, h => ⟨Rep.mono e _ _ h.1, h.2⟩
  | .tpo ds, v, f, k, h => by
    obtain ⟨a, vs, h1, h2, h3⟩ := h
    exact ⟨a, vs, h1, sqT_same e h2, RepOs.mono e ds vs f k h3⟩
  | .dct true ks ds, v, f, k, h => by
    obtain ⟨a, vs, g, h1, h2, h5, h3, h4⟩ := h
    refine ⟨a, vs, g, h1, (k a (by rw [h4, if_pos rfl]; omega)).trans h2, h5, RepOs.mono e ds vs g (fun b hb => k b (by rw [h4]; omega)) h3, h4⟩
  | .dct false _ _, v, f, k, h => ⟨Rep.mono e _ _ h.1, h.2⟩
  | .tup _, v, f, k, h => ⟨Rep.mono e _ _ h.1, h.2⟩
  | .cst _, v, f, k, h => ⟨Rep.mono e _ _ h.1, h.2⟩
theorem RepOs.mono (e : Same F F') : ∀ (ds : List D) (vs : List V) (f : Ct), (∀ a, 0 < f a → H' a = H a) → RepOs K ca F H ds vs f → RepOs K ca F' H' ds vs f
  | [], _, _, _, h => h
  | d :: ds, _, f, k, h => by
    obtain ⟨v, r, f1, f2, h1, h2, h3, h4⟩ := h
    exact ⟨v, r, f1, f2, h1, RepO.mono e d v f1 (fun b hb => k b (by rw [h4]; omega)) h2, RepOs.mono e ds r f2 (fun b hb => k b (by rw [h4]; omega)) h3, h4⟩
end
mutual
theorem RepO.there : ∀ (d : D) (v : V) (f : Ct), RepO K ca F H d v f → ∀ a, 0 < f a → H a ≠ none
  | .lst true ds, v, f, h, b, hb => by
    obtain ⟨a, vs, g, h1, h2, h3, h4⟩ := h
    by_cases e : b = a
    · subst e; rw [h2]; exact fun z => by cases z
    · rw [h4, if_neg e] at hb; exact RepOs.there ds vs g h3 b (by omega)
  | .obj true c ns ds, v, f, h, b, hb => by
    obtain ⟨a, dx, fs, vs, g, h1, h2, h5, h6, h3, h4⟩ := h
    by_cases e : b = a
    · subst e; rw [h2]; exact fun z => by cases z
    · rw [h4, if_neg e] at hb; exact RepOs.there ds vs g h3 b (by omega)
  | .lst false ds, v, f, h, b, hb => by rw [h.2] at hb; omega
  | .obj false c ns ds, v, f, h, b, hb => by rw [h.2] at hb; omega
  | .non, v, f, h, b, hb => by rw [h.2] at hb; omega
  | .bl _, v, f, h, b, hb => by rw [h.2] at hb; omega
  | .int _, v, f, h, b, hb => by rw [h.2] at hb; omega
  | .str _, v, f, h, b, hb => by rw [h.2] at hb; omega
  | .ty _, v, f, h, b, hb => by rw [h.2] at hb; omega
  | .val _, v, f, h, b, hb => by rw [h.2] at hb; omega
  | .tpo ds, v, f, h, b, hb => by
    obtain ⟨a, vs, h1, h2, h3⟩ := h
    exact RepOs.there ds vs f h3 b hb
  | .dct true ks ds, v, f, h, b, hb => by
    obtain ⟨a, vs, g, h1, h2, h5, h3, h4⟩ := h
    by_cases e : b = a
    · subst e; rw [h2]; exact fun z => by cases z
    · rw [h4, if_neg e] at hb; exact RepOs.there ds vs g h3 b (by omega)
  | .dct false _ _, v, f, h, b, hb => by rw [h.2] at hb; omega
  | .tup _, v, f, h, b, hb => by rw [h.2] at hb; omega
  | .cst _, v, f, h, b, hb => by rw [h.2] at hb; omega
theorem RepOs.there : ∀ (ds : List D) (vs : List V) (f : Ct), RepOs K ca F H ds vs f → ∀ a, 0 < f a → H a ≠ none
  | [], _, f, h, b, hb => by rw [h.2] at hb; omega
  | d :: ds, _, f, h, b, hb => by
    obtain ⟨v, r, f1, f2, h1, h2, h3, h4⟩ := h
    rw [h4] at hb
    by_cases q : 0 < f1 b
    · exact RepO.there d v f1 h2 b q
    · exact RepOs.there ds r f2 h3 b (by omega)
end
mutual
theorem RepO.fz (e : Same F F') : ∀ (d : D) (v : V) (f : Ct), (∀ a, 0 < f a → F' a = H a) → RepO K ca F H d v f → Rep K ca F' (freeze d) v
  | .lst true ds, v, f, k, h => by
    obtain ⟨a, vs, g, h1, h2, h3, h4⟩ := h
    exact ⟨a, vs, h1, (k a (by rw [h4, if_pos rfl]; omega)).trans h2, RepOs.fz e ds vs g (fun b hb => k b (by rw [h4]; omega)) h3⟩
  | .obj true c ns ds, v, f, k, h => by
    obtain ⟨a, dx, fs, vs, g, h1, h2, h5, h6, h3, h4⟩ := h
    exact ⟨a, dx, fs, vs, h1, (k a (by rw [h4, if_pos rfl]; omega)).trans h2, h5, h6, RepOs.fz e ds vs g (fun b hb => k b (by rw [h4]; omega)) h3⟩
  | .lst false ds, v, f, k, h => Rep.mono e _ _ h.1
  | .obj false c ns ds, v, f, k, h => Rep.mono e _ _ h.1
  | .non, v, f, k, h => Rep.mono e _ _ h.1
  | .bl _, v, f, k, h => Rep.mono e _ _ h.1
  | .int _, v, f, k, h => Rep.mono e _ _ h.1
  | .str _, v, f, k, h => Rep.mono e _ _ h.1
  | .ty _, v, f, k, h => Rep.mono e _ _ h.1
  | .val _, v, f, k, h => Rep.mono e _ _ h.1
  | .tpo ds, v, f, k, h => by
    obtain ⟨a, vs, h1, h2, h3⟩ := h
    exact ⟨a, vs, h1, sqT_same e h2, RepOs.fz e ds vs f k h3⟩
  | .dct true ks ds, v, f, k, h => by
    obtain ⟨a, vs, g, h1, h2, h5, h3, h4⟩ := h
    exact ⟨a, vs, h1, (k a (by rw [h4, if_pos rfl]; omega)).trans h2, h5, RepOs.fz e ds vs g (fun b hb => k b (by rw [h4]; omega)) h3⟩
  | .dct false _ _, v, f, k, h => Rep.mono e _ _ h.1
  | .tup _, v, f, k, h => Rep.mono e _ _ h.1
  | .cst _, v, f, k, h => Rep.mono e _ _ h.1
theorem RepOs.fz (e : Same F F') : ∀ (ds : List D) (vs : List V) (f : Ct), (∀ a, 0 < f a → F' a = H a) → RepOs K ca F H ds vs f → RepL K ca F' (freezeL ds) vs
  | [], _, _, _, h => h.1
  | d :: ds, _, f, k, h => by
    obtain ⟨v, r, f1, f2, h1, h2, h3, h4⟩ := h
    exact ⟨v, r, h1, RepO.fz e d v f1 (fun b hb => k b (by rw [h4]; omega)) h2, RepOs.fz e ds r f2 (fun b hb => k b (by rw [h4]; omega)) h3⟩
end
theorem RepL.length : ∀ {ds : List D} {vs : List V}, RepL K ca F ds vs → vs.length = ds.length
  | [], _, h => by have h : _ = [] := h; rw [h]; rfl
  | _ :: _, _, ⟨v, r, h1, h2, h3⟩ => by rw [h1, List.length_cons, List.length_cons, h3.length]
theorem RepOs.length : ∀ {ds : List D} {vs : List V} {f : Ct}, RepOs K ca F H ds vs f → vs.length = ds.length
  | [], _, _, h => by rw [h.1]; rfl
  | _ :: _, _, _, ⟨v, r, _, _, h1, h2, h3, _⟩ => by rw [h1, List.length_cons, List.length_cons, h3.length]
theorem RepL.get : ∀ {ds : List D} {vs : List V} {i : Nat} {d : D}, RepL K ca F ds vs → ds[i]? = some d → ∃ v, vs[i]? = some v ∧ Rep K ca F d v
  | [], _, _, _, _, e => by simp at e
  | d :: _, _, 0, _, ⟨v, r, h1, h2, h3⟩, e => by simp at e; subst e; subst h1; exact ⟨v, rfl, h2⟩
  | _ :: _, _, i + 1, d, ⟨v, r, h1, h2, h3⟩, e => by subst h1; simpa using h3.get (i := i) (by simpa using e)
theorem RepOs.get : ∀ {ds : List D} {vs : List V} {f : Ct} {i : Nat} {d : D}, RepOs K ca F H ds vs f → ds[i]? = some d → ∃ v g, vs[i]? = some v ∧ RepO K ca F H d v g
  | [], _, _, _, _, _, e => by simp at e
  | d :: _, _, _, 0, _, ⟨v, r, f1, f2, h1, h2, h3, _⟩, e => by simp at e; subst e; subst h1; exact ⟨v, f1, rfl, h2⟩
  | _ :: _, _, _, i + 1, d, ⟨v, r, f1, f2, h1, h2, h3, _⟩, e => by subst h1; simpa using h3.get (i := i) (by simpa using e)
theorem RepOs.append : ∀ {ds es : List D} {vs us : List V} {f g : Ct}, RepOs K ca F H ds vs f → RepOs K ca F H es us g → RepOs K ca F H (ds ++ es) (vs ++ us) (fun b => f b + g b)
  | [], es, _, us, f, g, h, k => by
    obtain ⟨rfl, h2⟩ := h
    have e : (fun b => f b + g b) = g := funext fun b => by rw [h2]; omega
    rw [e]; exact k
  | _ :: _, _, _, _, f, g, ⟨v, r, f1, f2, h1, h2, h3, h4⟩, k => by
    subst h1
    exact ⟨v, _, f1, _, rfl, h2, h3.append k, fun b => by show f b + g b = f1 b + (f2 b + g b); rw [h4]; omega⟩
theorem RepOs.split : ∀ {ds es : List D} {ws : List V} {f : Ct}, RepOs K ca F H (ds ++ es) ws f → ∃ vs us g1 g2, ws = vs ++ us ∧ RepOs K ca F H ds vs g1 ∧ RepOs K ca F H es us g2 ∧ ∀ b, f b = g1 b + g2 b
  | [], es, ws, f, h => ⟨[], ws, fun _ => 0, f, rfl, ⟨rfl, fun _ => rfl⟩, h, fun b => by show f b = 0 + f b; omega⟩
  | _ :: _, _, _, f, ⟨v, r, f1, f2, h1, h2, h3, h4⟩ => by
    obtain ⟨vs, us, g1, g2, e, k1, k2, k3⟩ := RepOs.split h3
    subst h1; subst e
    exact ⟨v :: vs, us, fun b => f1 b + g1 b, g2, rfl, ⟨v, vs, f1, g1, rfl, h2, k1, fun _ => rfl⟩, k2, fun b => by show f b = (f1 b + g1 b) + g2 b; rw [h4, k3]; omega⟩
theorem RepOs.split' {ds es : List D} {vs us : List V} {f : Ct} (h : RepOs K ca F H (ds ++ es) (vs ++ us) f) (hl : vs.length = ds.length) : ∃ g1 g2, RepOs K ca F H ds vs g1 ∧ RepOs K ca F H es us g2 ∧ ∀ b, f b = g1 b + g2 b := by
  obtain ⟨vs', us', g1, g2, e, k1, k2, k3⟩ := h.split
  have hl' := k1.length
  obtain ⟨rfl, rfl⟩ := List.append_inj e (by omega)
  exact ⟨g1, g2, k1, k2, k3⟩
end
section
variable (K : PySem.W.Frag) (ca : Str → Addr) (F H : Hp)
def Sl : Env → L2.St → Ct → Prop
  | [], σ, f => σ = [] ∧ ∀ b, f b = 0
  | none :: τ, σ, f => ∃ x r, σ = x :: r ∧ Sl τ r f
  | some d :: τ, σ, f => ∃ v r f1 f2, σ = some v :: r ∧ RepO K ca F H d v f1 ∧ Sl τ r f2 ∧ ∀ b, f b = f1 b + f2 b
end
section
variable {K : PySem.W.Frag} {ca : Str → Addr} {F F' H H' : Hp}
theorem Sl.mono (e : Same F F') : ∀ {τ : Env} {σ : L2.St} {f : Ct}, (∀ a, 0 < f a → H' a = H a) → Sl K ca F H τ σ f → Sl K ca F' H' τ σ f
  | [], _, _, _, h => h
  | none :: _, _, _, k, ⟨x, r, h1, h2⟩ => ⟨x, r, h1, Sl.mono e k h2⟩
  | some _ :: _, _, f, k, ⟨v, r, f1, f2, h1, h2, h3, h4⟩ => ⟨v, r, f1, f2, h1, RepO.mono e _ _ _ (fun b hb => k b (by rw [h4]; omega)) h2, Sl.mono e (fun b hb => k b (by rw [h4]; omega)) h3, h4⟩
theorem Sl.there : ∀ {τ : Env} {σ : L2.St} {f : Ct}, Sl K ca F H τ σ f → ∀ a, 0 < f a → H a ≠ none
  | [], _, _, h, b, hb => by rw [h.2] at hb; omega
  | none :: _, _, _, ⟨x, r, h1, h2⟩, b, hb => Sl.there h2 b hb
  | some _ :: _, _, f, ⟨v, r, f1, f2, h1, h2, h3, h4⟩, b, hb => by
    rw [h4] at hb
    by_cases q : 0 < f1 b
    · exact RepO.there _ v f1 h2 b q
    · exact Sl.there h3 b (by omega)
theorem Sl.length : ∀ {τ : Env} {σ : L2.St} {f : Ct}, Sl K ca F H τ σ f → σ.length = τ.length
  | [], _, _, h => by rw [h.1]; rfl
  | none :: _, _, _, ⟨x, r, h1, h2⟩ => by rw [h1, List.length_cons, List.length_cons, Sl.length h2]
  | some _ :: _, _, f, ⟨v, r, f1, f2, h1, h2, h3, h4⟩ => by rw [h1, List.length_cons, List.length_cons, Sl.length h3]
theorem Sl.get : ∀ {τ : Env} {σ : L2.St} {f : Ct} {i : Nat} {d : D}, Sl K ca F H τ σ f → τ[i]? = some (some d) → ∃ v g, σ[i]? = some (some v) ∧ RepO K ca F H d v g
  | [], _, _, _, _, _, e => by simp at e
  | none :: _, _, _, 0, _, _, e => by simp at e
  | none :: _, _, _, i + 1, _, ⟨x, r, h1, h2⟩, e => by subst h1; simpa using Sl.get (i := i) h2 (by simpa using e)
  | some _ :: _, _, _, 0, _, ⟨v, r, f1, f2, h1, h2, h3, h4⟩, e => by simp at e; subst e; subst h1; exact ⟨v, f1, rfl, h2⟩
  | some _ :: _, _, _, i + 1, _, ⟨v, r, f1, f2, h1, h2, h3, h4⟩, e => by subst h1; simpa using Sl.get (i := i) h3 (by simpa using e)
theorem Sl.take : ∀ {τ : Env} {σ : L2.St} {f : Ct} {i : Nat} {d : D}, Sl K ca F H τ σ f → τ[i]? = some (some d) → ∃ v g1 g2, σ[i]? = some (some v) ∧ RepO K ca F H d v g1 ∧ Sl K ca F H (τ.set i none) σ g2 ∧ ∀ b, f b = g1 b + g2 b
  | [], _, _, _, _, _, e => by simp at e
  | none :: _, _, _, 0, _, _, e => by simp at e
  | none :: _, _, _, i + 1, _, ⟨x, r, h1, h2⟩, e => by
    subst h1
    obtain ⟨v, g1, g2, k1, k2, k3, k4⟩ := Sl.take (i := i) h2 (by simpa using e)
    exact ⟨v, g1, g2, by simpa using k1, k2, ⟨x, r, rfl, k3⟩, k4⟩
  | some _ :: _, _, _, 0, _, ⟨v, r, f1, f2, h1, h2, h3, h4⟩, e => by simp at e; subst e; subst h1; exact ⟨v, f1, f2, rfl, h2, ⟨_, r, rfl, h3⟩, h4⟩
  | some _ :: _, _, f, i + 1, _, ⟨v, r, f1, f2, h1, h2, h3, h4⟩, e => by
    subst h1
    obtain ⟨v', g1, g2, k1, k2, k3, k4⟩ := Sl.take (i := i) h3 (by simpa using e)
    exact ⟨v', g1, fun b => f1 b + g2 b, by simpa using k1, k2, ⟨v, r, f1, g2, rfl, h2, k3, fun _ => rfl⟩, fun b => by show f b = g1 b + (f1 b + g2 b); rw [h4, k4]; omega⟩
theorem Sl.put : ∀ {τ : Env} {σ : L2.St} {f : Ct} {i : Nat} {d : D} {v : V} {g : Ct}, Sl K ca F H τ σ f → i < τ.length → RepO K ca F H d v g → ∃ f2, Sl K ca F H (τ.set i (some d)) (σ.set i (some v)) f2 ∧ ∀ b, f2 b ≤ f b + g b
  | [], _, _, _, _, _, _, _, e, _ => by simp at e
  | none :: _, _, f, 0, _, v, g, ⟨x, r, h1, h2⟩, e, hv => by subst h1; exact ⟨fun b => g b + f b, ⟨v, r, g, f, rfl, hv, h2, fun _ => rfl⟩, fun b => by show g b + f b ≤ f b + g b; omega⟩
  | none :: _, _, f, i + 1, _, v, g, ⟨x, r, h1, h2⟩, e, hv => by
    subst h1
    obtain ⟨f2, k1, k2⟩ := Sl.put (i := i) h2 (by simpa using e) hv
    exact ⟨f2, ⟨x, _, rfl, k1⟩, k2⟩
  | some _ :: _, _, f, 0, _, v, g, ⟨w, r, f1, f2, h1, h2, h3, h4⟩, e, hv => by subst h1; exact ⟨fun b => g b + f2 b, ⟨v, r, g, f2, rfl, hv, h3, fun _ => rfl⟩, fun b => by show g b + f2 b ≤ f b + g b; rw [h4]; omega⟩
  | some _ :: _, _, f, i + 1, _, v, g, ⟨w, r, f1, f2, h1, h2, h3, h4⟩, e, hv => by
    subst h1
    obtain ⟨f3, k1, k2⟩ := Sl.put (i := i) h3 (by simpa using e) hv
    exact ⟨fun b => f1 b + f3 b, ⟨w, _, f1, f3, rfl, h2, k1, fun _ => rfl⟩, fun b => by show f1 b + f3 b ≤ f b + g b; have := k2 b; rw [h4]; omega⟩
theorem Sl.drop : ∀ {τ : Env} {σ : L2.St} {f : Ct} {i : Nat}, Sl K ca F H τ σ f → ∃ f2, Sl K ca F H (τ.set i none) σ f2 ∧ ∀ b, f2 b ≤ f b := fun {τ σ f i} h => by
  cases e : τ[i]? with
  | none => rw [List.set_eq_of_length_le (by simpa using e)]; exact ⟨f, h, fun _ => Nat.le_refl _⟩
  | some x =>
    cases x with
    | none =>
      have : τ.set i none = τ := by
        apply List.ext_getElem?
        intro j
        rw [List.getElem?_set]
        split
        · rename_i q; subst q; split
          · exact e.symm
          · rename_i hl; rw [List.getElem?_eq_none (by omega)]
        · rfl
      rw [this]; exact ⟨f, h, fun _ => Nat.le_refl _⟩
    | some d =>
      obtain ⟨v, g1, g2, _, _, k, q⟩ := h.take e
      exact ⟨g2, k, fun b => by rw [q]; omega⟩
end
structure Bx where
  ca : Str → Addr
  F0 : Hp
  R : Hp
  io : List (Nat × V)
structure Wd (B : Bx) (F H : Hp) (f : Ct) : Prop where
  nd : ∀ a, f a ≤ 1
  dF : ∀ a, 0 < f a → F a = none
  dR : ∀ a, 0 < f a → B.R a = none
  sF : Same F H
  sR : Same B.R H
  s0 : Same B.F0 F
  fr : ∀ a, F a ≠ none → B.F0 a ≠ none ∨ B.R a = none
def IoOk (B : Bx) (σ : L2.St) : Prop := ∀ p ∈ B.io, σ[p.1]? = some (some p.2)
def StT (K : PySem.W.Frag) (B : Bx) (F H : Hp) (σ : L2.St) (τ : Env) (vs : List V) (ds : List D) : Prop :=
  ∃ f1 f2, Sl K B.ca F H τ σ f1 ∧ RepOs K B.ca F H ds vs f2 ∧ Wd B F H (fun b => f1 b + f2 b) ∧ IoOk B σ
theorem Wd.less {B : Bx} {F H : Hp} {f g : Ct} (w : Wd B F H f) (h : ∀ b, g b ≤ f b) : Wd B F H g :=
  ⟨fun a => Nat.le_trans (h a) (w.nd a), fun a q => w.dF a (Nat.lt_of_lt_of_le q (h a)), fun a q => w.dR a (Nat.lt_of_lt_of_le q (h a)), w.sF, w.sR, w.s0, w.fr⟩
theorem same_upd {H : Hp} {p : Addr} {o : HO} (h : H p = none) : Same H (upd H p o) := fun b x e => by
  rw [upd_ne (ne_of_none e h)]
  exact e
theorem Wd.frozen {B : Bx} {F H : Hp} {f : Ct} {p : Addr} {o : HO} (w : Wd B F H f) (hp : H p = none) : Wd B (upd F p o) (upd H p o) (fun a => if a = p then 0 else f a) := by
  have hF : F p = none := by
    cases e : F p with
    | none => rfl
    | some x => rw [w.sF _ _ e] at hp; cases hp
  have hR : B.R p = none := by
    cases e : B.R p with
    | none => rfl
    | some x => rw [w.sR _ _ e] at hp; cases hp
  refine ⟨fun a => ?_, fun a q => ?_, fun a q => ?_, fun b x e => ?_, fun b x e => ?_, fun b x e => ?_, fun a q => ?_⟩
  · show (if a = p then 0 else f a) ≤ 1
    split
    · omega
    · exact w.nd a
  · have q : 0 < (if a = p then 0 else f a) := q
    split at q
    · omega
    · rw [upd_ne (by assumption)]; exact w.dF a q
  · have q : 0 < (if a = p then 0 else f a) := q
    split at q
    · omega
    · exact w.dR a q
  · by_cases h : b = p
    · subst h; rw [upd_same] at e ⊢; exact e
    · rw [upd_ne h] at e ⊢; exact w.sF b x e
  · rw [upd_ne (ne_of_none (w.sR b x e) hp)]; exact w.sR b x e
  · rw [upd_ne (ne_of_none (w.s0 b x e) hF)]; exact w.s0 b x e
  · by_cases h : a = p
    · subst h; exact .inr hR
    · rw [upd_ne h] at q; exact w.fr a q
theorem Wd.owned {B : Bx} {F H : Hp} {f : Ct} {p : Addr} {o : HO} (w : Wd B F H f) (hp : H p = none) (hf : f p = 0) : Wd B F (upd H p o) (fun a => (if a = p then 1 else 0) + f a) := by
  have hF : F p = none := by
    cases e : F p with
    | none => rfl
    | some x => rw [w.sF _ _ e] at hp; cases hp
  have hR : B.R p = none := by
    cases e : B.R p with
    | none => rfl
    | some x => rw [w.sR _ _ e] at hp; cases hp
  refine ⟨fun a => ?_, fun a q => ?_, fun a q => ?_, fun b x e => ?_, fun b x e => ?_, w.s0, w.fr⟩
  · show (if a = p then 1 else 0) + f a ≤ 1
    split
    · rename_i h; rw [h, hf]; omega
    · have := w.nd a; omega
  · have q : 0 < (if a = p then 1 else 0) + f a := q
    split at q
    · rename_i h; rw [h]; exact hF
    · exact w.dF a (by omega)
  · have q : 0 < (if a = p then 1 else 0) + f a := q
    split at q
    · rename_i h; rw [h]; exact hR
    · exact w.dR a (by omega)
  · rw [upd_ne (ne_of_none (w.sF b x e) hp)]; exact w.sF b x e
  · rw [upd_ne (ne_of_none (w.sR b x e) hp)]; exact w.sR b x e
def grow (F H : Hp) (f : Ct) : Hp := fun a => if 0 < f a then H a else F a
theorem same_grow {B : Bx} {F H : Hp} {f g : Ct} (w : Wd B F H f) (h : ∀ b, g b ≤ f b) : Same F (grow F H g) := fun b x e => by
  unfold grow
  split
  · rename_i q; rw [w.dF b (Nat.lt_of_lt_of_le q (h b))] at e; cases e
  · exact e
theorem Wd.give {B : Bx} {F H : Hp} {f g r : Ct} (w : Wd B F H f) (h : ∀ b, f b = g b + r b) : Wd B (grow F H g) H r := by
  refine ⟨fun a => by have := w.nd a; have := h a; omega, fun a q => ?_, fun a q => w.dR a (by rw [h]; omega), fun b x e => ?_, w.sR, fun b x e => (same_grow w fun b => by rw [h]; omega) b x (w.s0 b x e), fun a q => ?_⟩
  · unfold grow
    have := w.nd a; have := h a
    rw [if_neg (by omega)]
    exact w.dF a (by omega)
  · unfold grow at e
    split at e
    · exact e
    · exact w.sF b x e
  · unfold grow at q
    split at q
    · exact .inr (w.dR a (by rw [h]; omega))
    · exact w.fr a q
section
variable {K : PySem.W.Frag} {B : Bx} {F H : Hp} {σ : L2.St} {τ : Env} {vs us : List V} {ds es : List D} {v : V} {d : D}
theorem StT.push (s : StT K B F H σ τ vs ds) (h : Rep K B.ca F d v) : StT K B F H σ τ (v :: vs) (d :: ds) := by
  obtain ⟨f1, f2, a, b, w, io⟩ := s
  exact ⟨f1, f2, a, ⟨v, vs, _, f2, rfl, h.o, b, fun _ => by omega⟩, w, io⟩
theorem StT.pop (s : StT K B F H σ τ (v :: vs) (d :: ds)) : StT K B F H σ τ vs ds := by
  obtain ⟨f1, f2, a, ⟨_, _, g1, g2, e, _, b, q⟩, w, io⟩ := s
  cases e
  exact ⟨f1, g2, a, b, w.less fun b => by show f1 b + g2 b ≤ f1 b + f2 b; rw [q]; omega, io⟩
theorem StT.pops (s : StT K B F H σ τ (us ++ vs) (es ++ ds)) (hl : us.length = es.length) : StT K B F H σ τ vs ds := by
  obtain ⟨f1, f2, a, b, w, io⟩ := s
  obtain ⟨g1, g2, _, b, q⟩ := b.split' hl
  exact ⟨f1, g2, a, b, w.less fun b => by show f1 b + g2 b ≤ f1 b + f2 b; rw [q]; omega, io⟩
theorem StT.top (s : StT K B F H σ τ (v :: vs) (d :: ds)) : ∃ f, RepO K B.ca F H d v f := by
  obtain ⟨f1, f2, a, ⟨_, _, g1, g2, e, h, b, q⟩, w, io⟩ := s
  cases e
  exact ⟨_, h⟩
theorem StT.topF (s : StT K B F H σ τ (v :: vs) (d :: ds)) (h : isFz d = true) : Rep K B.ca F d v := by
  obtain ⟨f, q⟩ := s.top
  exact ((repO_fz h).mp q).1
theorem StT.swap (s : StT K B F H σ τ (us ++ v :: vs) (es ++ d :: ds)) (hl : us.length = es.length) : StT K B F H σ τ (v :: us ++ vs) (d :: es ++ ds) := by
  obtain ⟨f1, f2, a, b, w, io⟩ := s
  obtain ⟨g1, g2, b1, ⟨_, _, g3, g4, e, b2, b3, q2⟩, q⟩ := b.split' hl
  cases e
  exact ⟨f1, f2, a, ⟨v, us ++ vs, g3, _, rfl, b2, b1.append b3, fun b => by rw [q, q2]; omega⟩, w, io⟩
theorem StT.same (s : StT K B F H σ τ vs ds) : Same F H := by
  obtain ⟨f1, f2, a, b, w, io⟩ := s
  exact w.sF
theorem StT.get {i : Nat} (s : StT K B F H σ τ vs ds) (e : τ[i]? = some (some d)) : ∃ v f, σ[i]? = some (some v) ∧ RepO K B.ca F H d v f := by
  obtain ⟨f1, f2, a, b, w, io⟩ := s
  exact a.get e
theorem StT.take {i : Nat} (s : StT K B F H σ τ vs ds) (e : τ[i]? = some (some d)) : ∃ v, σ[i]? = some (some v) ∧ StT K B F H σ (τ.set i none) (v :: vs) (d :: ds) := by
  obtain ⟨f1, f2, a, b, w, io⟩ := s
  obtain ⟨v, g1, g2, e1, h1, h2, q⟩ := a.take e
  refine ⟨v, e1, g2, fun b => g1 b + f2 b, h2, ⟨v, vs, g1, f2, rfl, h1, b, fun _ => rfl⟩, ?_, io⟩
  have e2 : (fun b => g2 b + (g1 b + f2 b)) = fun b => f1 b + f2 b := funext fun b => by rw [q]; omega
  rw [e2]; exact w
def ioFree (B : Bx) (i : Nat) : Prop := ∀ p ∈ B.io, p.1 ≠ i
theorem StT.put {i : Nat} (s : StT K B F H σ τ (v :: vs) (d :: ds)) (hi : i < τ.length) (hf : ioFree B i) : StT K B F H (σ.set i (some v)) (τ.set i (some d)) vs ds := by
  obtain ⟨f1, f2, a, ⟨_, _, g1, g2, e, h, b, q⟩, w, io⟩ := s
  cases e
  obtain ⟨f3, k1, k2⟩ := a.put hi h
  refine ⟨f3, g2, k1, b, w.less fun b => by show f3 b + g2 b ≤ f1 b + f2 b; have := k2 b; rw [q]; omega, fun p hp => ?_⟩
  rw [List.getElem?_set_ne (Ne.symm (hf p hp))]
  exact io p hp
theorem StT.putBack {i : Nat} (s : StT K B F H σ τ (v :: vs) (d :: ds)) (hi : i < τ.length) (hv : σ[i]? = some (some v)) : StT K B F H σ (τ.set i (some d)) vs ds := by
  obtain ⟨f1, f2, a, ⟨_, _, g1, g2, e, h, b, q⟩, w, io⟩ := s
  cases e
  obtain ⟨f3, k1, k2⟩ := a.put hi h
  have e1 : σ.set i (some v) = σ := by
    apply List.ext_getElem?
    intro j
    rw [List.getElem?_set]
    split
    · rename_i q; subst q; split
      · exact hv.symm
      · rename_i hl; rw [List.getElem?_eq_none (by omega)]
    · rfl
  rw [e1] at k1
  exact ⟨f3, g2, k1, b, w.less fun b => by show f3 b + g2 b ≤ f1 b + f2 b; have := k2 b; rw [q]; omega, io⟩
theorem StT.forget {i : Nat} (s : StT K B F H σ τ vs ds) : StT K B F H σ (τ.set i none) vs ds := by
  obtain ⟨f1, f2, a, b, w, io⟩ := s
  obtain ⟨g, k, q⟩ := a.drop (i := i)
  exact ⟨g, f2, k, b, w.less fun b => by show g b + f2 b ≤ f1 b + f2 b; have := q b; omega, io⟩
theorem StT.freeze (s : StT K B F H σ τ (us ++ vs) (es ++ ds)) (hl : us.length = es.length) : ∃ F', Same F F' ∧ RepL K B.ca F' (freezeL es) us ∧ StT K B F' H σ τ vs ds := by
  obtain ⟨f1, f2, a, b, w, io⟩ := s
  obtain ⟨g1, g2, b1, b2, q⟩ := b.split' hl
  have le : ∀ b, g1 b ≤ f1 b + f2 b := fun b => by rw [q]; omega
  have sm : Same F (grow F H g1) := same_grow w le
  refine ⟨grow F H g1, sm, RepOs.fz sm _ _ _ (fun a h => by unfold grow; rw [if_pos h]) b1, f1, g2, a.mono sm fun _ _ => rfl, RepOs.mono sm _ _ _ (fun _ _ => rfl) b2, ?_, io⟩
  exact w.give (g := g1) (r := fun b => f1 b + g2 b) fun b => by show f1 b + f2 b = g1 b + (f1 b + g2 b); rw [q]; omega
theorem StT.new (s : StT K B F H σ τ vs ds) {p : Addr} {o : HO} (hp : H p = none) : StT K B (upd F p o) (upd H p o) σ τ vs ds ∧ Same F (upd F p o) := by
  obtain ⟨f1, f2, a, b, w, io⟩ := s
  have hF : F p = none := by
    cases e : F p with
    | none => rfl
    | some x => rw [w.sF _ _ e] at hp; cases hp
  have sm : Same F (upd F p o) := Bn.same_upd hF
  have k1 : ∀ x, 0 < f1 x → upd H p o x = H x := fun x hx => upd_ne fun e => a.there x hx (e ▸ hp)
  have k2 : ∀ x, 0 < f2 x → upd H p o x = H x := fun x hx => upd_ne fun e => b.there _ _ _ x hx (e ▸ hp)
  refine ⟨⟨f1, f2, a.mono sm k1, RepOs.mono sm _ _ _ k2 b, (w.frozen hp).less fun x => ?_, io⟩, sm⟩
  show f1 x + f2 x ≤ if x = p then 0 else f1 x + f2 x
  split
  · rename_i e
    have h1 : ¬ 0 < f1 x := fun h => a.there x h (e ▸ hp)
    have h2 : ¬ 0 < f2 x := fun h => b.there _ _ _ x h (e ▸ hp)
    omega
  · omega
theorem StT.newTup (s : StT K B F H σ τ vs ds) {p : Addr} (hp : H p = none) (h : RepL K B.ca F es us) : StT K B (upd F p (.tup us)) (upd H p (.tup us)) σ τ (.ref p :: vs) (.tup es :: ds) := by
  obtain ⟨s', sm⟩ := s.new (o := .tup us) hp
  exact s'.push ⟨p, us, rfl, .inl (.inl upd_same), RepL.mono sm _ _ h⟩
theorem StT.newLst (s : StT K B F H σ τ (us ++ vs) (es ++ ds)) (hl : us.length = es.length) {p : Addr} (hp : H p = none) : StT K B F (upd H p (.lst us)) σ τ (.ref p :: vs) (.lst true es :: ds) := by
  obtain ⟨f1, f2, a, b, w, io⟩ := s
  obtain ⟨g1, g2, b1, b2, q⟩ := b.split' hl
  have k1 : ∀ x, 0 < f1 x → upd H p (.lst us) x = H x := fun x hx => upd_ne fun e => a.there x hx (e ▸ hp)
  have k2 : ∀ x, 0 < g1 x → upd H p (.lst us) x = H x := fun x hx => upd_ne fun e => b1.there _ _ _ x hx (e ▸ hp)
  have k3 : ∀ x, 0 < g2 x → upd H p (.lst us) x = H x := fun x hx => upd_ne fun e => b2.there _ _ _ x hx (e ▸ hp)
  have z : f1 p + f2 p = 0 := by
    have h1 : ¬ 0 < f1 p := fun h => a.there p h hp
    have h2 : ¬ 0 < f2 p := fun h => b.there _ _ _ p h hp
    omega
  refine ⟨f1, fun b => ((if b = p then 1 else 0) + g1 b) + g2 b, a.mono (Same.refl _) k1, ⟨.ref p, vs, fun b => (if b = p then 1 else 0) + g1 b, g2, rfl, ⟨p, us, g1, rfl, upd_same, RepOs.mono (Same.refl _) _ _ _ k2 b1, fun _ => rfl⟩, RepOs.mono (Same.refl _) _ _ _ k3 b2, fun _ => rfl⟩, ?_, io⟩
  have e : (fun b => f1 b + (((if b = p then 1 else 0) + g1 b) + g2 b)) = fun b => (if b = p then 1 else 0) + (f1 b + f2 b) := funext fun b => by rw [q]; omega
  rw [e]
  exact w.owned hp z
theorem StT.change {a : Addr} {xs ys : List V} {es' : List D} (s : StT K B F H σ τ (.ref a :: (us ++ vs)) (.lst true es :: (ds ++ es'))) (hl : us.length = ds.length) (hx : H a = some (.lst xs)) {es2 : List D}
    (k : ∀ g1 g2, RepOs K B.ca F H es xs g1 → RepOs K B.ca F H ds us g2 → ∃ g, RepOs K B.ca F H es2 ys g ∧ ∀ b, g b ≤ g1 b + g2 b) :
    StT K B F (upd H a (.lst ys)) σ τ (.ref a :: vs) (.lst true es2 :: es') := by
  obtain ⟨f1, f2, A, ⟨_, _, g1, g2, e, h, b, q⟩, w, io⟩ := s
  cases e
  obtain ⟨a', xs', g3, e', hx', h3, q3⟩ := h
  cases e'
  rw [hx] at hx'; cases hx'
  obtain ⟨g4, g5, b1, b2, q4⟩ := b.split' hl
  obtain ⟨g, hg, hle⟩ := k g3 g4 h3 b1
  have one := w.nd a
  have tot : ∀ b, f1 b + f2 b = f1 b + ((if b = a then 1 else 0) + g3 b + (g4 b + g5 b)) := fun b => by rw [q, q3, q4]
  have za : f1 a = 0 ∧ g3 a = 0 ∧ g4 a = 0 ∧ g5 a = 0 := by
    have := tot a
    rw [if_pos rfl] at this
    omega
  have off : ∀ {φ : Ct}, φ a = 0 → ∀ x, 0 < φ x → upd H a (.lst ys) x = H x := fun {φ} hz x hx => upd_ne fun e => by rw [e, hz] at hx; omega
  have zg : g a = 0 := by have := hle a; omega
  refine ⟨f1, fun b => ((if b = a then 1 else 0) + g b) + g5 b, A.mono (Same.refl _) (off za.1), ⟨.ref a, vs, fun b => (if b = a then 1 else 0) + g b, g5, rfl, ⟨a, ys, g, rfl, upd_same, RepOs.mono (Same.refl _) _ _ _ (off zg) hg, fun _ => rfl⟩,
    RepOs.mono (Same.refl _) _ _ _ (off za.2.2.2) b2, fun _ => rfl⟩, ?_, io⟩
  have w2 : Wd B F H (fun b => f1 b + (((if b = a then 1 else 0) + g b) + g5 b)) := w.less fun b => by
    show f1 b + (((if b = a then 1 else 0) + g b) + g5 b) ≤ f1 b + f2 b
    have := tot b; have := hle b; omega
  have fa : F a = none := w.dF a (by have := tot a; rw [if_pos rfl] at this; show 0 < f1 a + f2 a; omega)
  have ra : B.R a = none := w.dR a (by have := tot a; rw [if_pos rfl] at this; show 0 < f1 a + f2 a; omega)
  exact ⟨w2.nd, w2.dF, w2.dR, fun b x e => by rw [upd_ne (ne_of_none e fa)]; exact w.sF b x e, fun b x e => by rw [upd_ne (ne_of_none e ra)]; exact w.sR b x e, w.s0, w.fr⟩
theorem StT.called {F' H' : Hp} {g : Ct} (s : StT K B F H σ τ vs ds) (h1 : Same F F') (h2 : Same F' H') (h3 : Same H H') (hv : RepO K B.ca F' H' d v g) (h4 : ∀ a, g a ≤ 1) (h5 : ∀ a, 0 < g a → F' a = none ∧ H a = none)
    (h6 : ∀ a, F' a ≠ none → F a ≠ none ∨ H a = none) : StT K B F' H' σ τ (v :: vs) (d :: ds) := by
  obtain ⟨f1, f2, a, b, w, io⟩ := s
  have k : ∀ x, H x ≠ none → H' x = H x := fun x hx => by
    cases e : H x with
    | none => exact absurd e hx
    | some o => exact h3 _ _ e
  have t1 : ∀ x, 0 < f1 x → H x ≠ none := a.there
  have t2 : ∀ x, 0 < f2 x → H x ≠ none := b.there _ _ _
  refine ⟨f1, fun b => g b + f2 b, a.mono h1 fun x hx => k x (t1 x hx), ⟨v, vs, g, f2, rfl, hv, RepOs.mono h1 _ _ _ (fun x hx => k x (t2 x hx)) b, fun _ => rfl⟩, ?_, io⟩
  have split : ∀ x, 0 < f1 x + (g x + f2 x) → (0 < g x ∧ f1 x = 0 ∧ f2 x = 0) ∨ (g x = 0 ∧ 0 < f1 x + f2 x) := fun x hx => by
    by_cases q : 0 < g x
    · have hn := (h5 x q).2
      have : ¬ 0 < f1 x := fun h => t1 x h hn
      have : ¬ 0 < f2 x := fun h => t2 x h hn
      exact .inl ⟨q, by omega, by omega⟩
    · exact .inr ⟨by omega, by omega⟩
  have old : ∀ x, 0 < f1 x + f2 x → H x ≠ none := fun x hx => by
    by_cases q : 0 < f1 x
    · exact t1 x q
    · exact t2 x (by omega)
  refine ⟨fun x => ?_, fun x hx => ?_, fun x hx => ?_, h2, w.sR.trans h3, w.s0.trans h1, fun x hx => ?_⟩
  · show f1 x + (g x + f2 x) ≤ 1
    by_cases q : 0 < f1 x + (g x + f2 x)
    · rcases split x q with ⟨_, e1, e2⟩ | ⟨e1, _⟩
      · have := h4 x; omega
      · have := w.nd x; omega
    · omega
  · rcases split x hx with ⟨e0, _⟩ | ⟨_, e0⟩
    · exact (h5 x e0).1
    · have hF := w.dF x e0
      cases e : F' x with
      | none => rfl
      | some o =>
        rcases h6 x (by rw [e]; exact fun z => by cases z) with z | z
        · exact absurd hF z
        · exact absurd z (old x e0)
  · rcases split x hx with ⟨e0, _⟩ | ⟨_, e0⟩
    · cases e : B.R x with
      | none => rfl
      | some o => have z := (h5 x e0).2; rw [w.sR _ _ e] at z; cases z
    · exact w.dR x e0
  · rcases h6 x hx with z | z
    · exact w.fr x z
    · refine .inr ?_
      cases e : B.R x with
      | none => rfl
      | some o => rw [w.sR _ _ e] at z; cases z
theorem StT.grown {H' : Hp} (s : StT K B F H σ τ vs ds) (h : Same H H') : StT K B F H' σ τ vs ds := by
  obtain ⟨f1, f2, a, b, w, io⟩ := s
  have k : ∀ x, H x ≠ none → H' x = H x := fun x hx => by
    cases e : H x with
    | none => exact absurd e hx
    | some o => exact h _ _ e
  exact ⟨f1, f2, a.mono (Same.refl _) fun x hx => k x (a.there x hx), RepOs.mono (Same.refl _) _ _ _ (fun x hx => k x (b.there _ _ _ x hx)) b, ⟨w.nd, w.dF, w.dR, w.sF.trans h, w.sR.trans h, w.s0, w.fr⟩, io⟩
end
end Bn
namespace Bn
open PySem PySem.Spec PyProof.Rows L2
inductive R (α : Type) where
  | ok (a : α) (τ : Env) | ex (c : Str) (τ : Env) | bad
inductive SR where
  | nx (τ : Env) | rt (d : D) (τ : Env) | bk (τ : Env) | ct (τ : Env) | ex (c : Str) (τ : Env) | bad
inductive CR where
  | ok (d : D) | ex (c : Str) | bad
abbrev ME := Env → R D
abbrev MZ := Env → Option D
abbrev MT := Env → R Bool
abbrev MA := Env → R (List D)
abbrev MS := Env → SR
def R.bind {α β : Type} : R α → (α → Env → R β) → R β
  | .ok a τ, k => k a τ
  | .ex c τ, _ => .ex c τ
  | .bad, _ => .bad
def post {α : Type} (y : α → Env → Prop) (x : Str → Env → Prop) : R α → Prop
  | .ok a τ => y a τ
  | .ex c τ => x c τ
  | .bad => False
theorem post_bind {α β : Type} {y : β → Env → Prop} {x : Str → Env → Prop} {r : R α} {k : α → Env → R β} (h : post y x (r.bind k)) : post (fun a τ => post y x (k a τ)) x r := by
  cases r <;> exact h
theorem post_imp {α : Type} {y y' : α → Env → Prop} {x x' : Str → Env → Prop} {r : R α} (h : post y x r) (hy : ∀ a τ, y a τ → y' a τ) (hx : ∀ c τ, x c τ → x' c τ) : post y' x' r := by
  cases r with
  | ok a τ => exact hy _ _ h
  | ex c τ => exact hx _ _ h
  | bad => exact h
section
variable {X : Cx}
theorem PE.imp {e : Expr} {t t' : TE} (h : PE X e t) (k : ∀ σ H Q, t' σ H Q → t σ H Q) : PE X e t' := ⟨fun p s σ H Q I q => h.run p s σ H Q I (k _ _ _ q)⟩
theorem PT.imp {e : Expr} {t t' : TT} (h : PT X e t) (k : ∀ σ H Q, t' σ H Q → t σ H Q) : PT X e t' := ⟨fun p s σ H Q I q => h.run p s σ H Q I (k _ _ _ q)⟩
theorem PW.imp {e : Expr} {t t' : TT} (h : PW X e t) (k : ∀ σ H Q, t' σ H Q → t σ H Q) : PW X e t' := ⟨fun w p s σ H Q I q => h.run w p s σ H Q I (k _ _ _ q)⟩
theorem PA.imp {e : List Expr} {t t' : TA} (h : PA X e t) (k : ∀ σ H Q, t' σ H Q → t σ H Q) : PA X e t' := ⟨fun z p s σ H Q I q => h.run z p s σ H Q I (k _ _ _ q)⟩
theorem PS.imp {e : Stmt} {t t' : TS} (h : PS X e t) (k : ∀ D σ H, t' D σ H → t D σ H) : PS X e t' := ⟨fun p s σ H D I q => h.run p s σ H D I (k _ _ _ q)⟩
theorem PSs.imp {e : List Stmt} {t t' : TS} (h : PSs X e t) (k : ∀ D σ H, t' D σ H → t D σ H) : PSs X e t' := ⟨fun p s σ H D I q => h.run p s σ H D I (k _ _ _ q)⟩
theorem PG.imp {e : Expr} {t t' : TG} (h : PG X e t) (k : ∀ v σ H Q, t' v σ H Q → t v σ H Q) : PG X e t' := ⟨fun p s σ H v u Q I r q => h.run p s σ H v u Q I r (k _ _ _ _ q)⟩
theorem PGs.imp {e : List Expr} {t t' : TGs} (h : PGs X e t) (k : ∀ v σ H Q, t' v σ H Q → t v σ H Q) : PGs X e t' := ⟨fun p s σ H v u Q I r q => h.run p s σ H v u Q I r (k _ _ _ _ q)⟩
end
section
variable (K : PySem.W.Frag) (B : Bx) (W : WX)
def exW (σ : L2.St) (vs : List V) (ds : List D) : Str → Env → Prop := fun c τ' => ∀ F' H', StT K B F' H' σ τ' vs ds → W (.ref (B.ca c)) none σ H'
def rdE (m : ME) : TE := fun σ H Q => ∃ F τ vs ds, StT K B F H σ τ vs ds ∧ post (fun d τ' => ∀ v F' H', StT K B F' H' σ τ' (v :: vs) (d :: ds) → Q v H') (exW K B W σ vs ds) (m τ)
def rdA (m : MA) : TA := fun σ H Q => ∃ F τ vs ds, StT K B F H σ τ vs ds ∧ post (fun es τ' => ∀ us F' H', us.length = es.length → StT K B F' H' σ τ' (us ++ vs) (es ++ ds) → Q us H') (exW K B W σ vs ds) (m τ)
def rdT (m : MT) : TT := fun σ H Q => ∃ F τ vs ds, StT K B F H σ τ vs ds ∧ post (fun b τ' => ∀ F' H', StT K B F' H' σ τ' vs ds → Q b H') (exW K B W σ vs ds) (m τ)
def rdZ (m : MZ) : TE := fun σ H Q => ∃ F τ vs ds, StT K B F H σ τ vs ds ∧ ∃ d, m τ = some d ∧ ∀ v f, RepO K B.ca F H d v f → Q v H
def postS (vs : List V) (ds : List D) (D : Ends) : SR → Prop
  | .nx τ => ∀ σ F H, StT K B F H σ τ vs ds → D.nx σ H
  | .rt d τ => ∀ v σ F H, StT K B F H σ τ (v :: vs) (d :: ds) → D.rt v H
  | .bk τ => ∀ σ F H, StT K B F H σ τ vs ds → D.bk σ H
  | .ct τ => ∀ σ F H, StT K B F H σ τ vs ds → D.ct σ H
  | .ex c τ => ∀ σ F H, StT K B F H σ τ vs ds → W (.ref (B.ca c)) none σ H
  | .bad => False
def rdS (m : MS) : TS := fun D σ H => ∃ F τ vs ds, StT K B F H σ τ vs ds ∧ postS K B W vs ds D (m τ)
def rdG (sl : List Nat) (g : D → Env → Option Env) : TG := fun v σ H Q => ∃ F τ vs ds d, StT K B F H σ τ (v :: vs) (d :: ds) ∧ ∃ τ', g d τ = some τ' ∧
  ∀ σ' F' H', StT K B F' H' σ' τ' vs ds → σ'.length = σ.length → (∀ j, j ∉ sl → σ'[j]? = σ[j]?) → Q σ' H'
def rdGs (sl : List Nat) (g : List D → Env → Option Env) : TGs := fun ws σ H Q => ∃ F τ vs ds es, ws.length = es.length ∧ StT K B F H σ τ (ws ++ vs) (es ++ ds) ∧ ∃ τ', g es τ = some τ' ∧
  ∀ σ' F' H', StT K B F' H' σ' τ' vs ds → σ'.length = σ.length → (∀ j, j ∉ sl → σ'[j]? = σ[j]?) → Q σ' H'
end
def zVar (i : Nat) : MZ := fun τ => τ.getD i none
def zC (d : D) : MZ := fun _ => some d
theorem getD_some {τ : Env} {i : Nat} {d : D} (h : τ.getD i none = some d) : τ[i]? = some (some d) := by
  rw [List.getD_eq_getElem?_getD] at h
  cases e : τ[i]? with
  | none => rw [e] at h; cases h
  | some x => rw [e] at h; exact congrArg some h
section
variable {X : Cx} {B : Bx} {W : WX}
theorem z_var {i : Nat} {e : Expr} (h : PE X e (tVar i)) : PE X e (rdZ X.K B (zVar i)) := PE.imp h fun σ H Q ⟨F, τ, vs, ds, s, d, e, k⟩ => by
  obtain ⟨v, f, h1, h2⟩ := s.get (getD_some e)
  exact ⟨v, h1, k v f h2⟩
theorem z_c {e : Expr} {d : D} {v : V} (h : PE X e (tC v)) (hd : ∀ F, Rep X.K B.ca F d v) : PE X e (rdZ X.K B (zC d)) := PE.imp h fun σ H Q ⟨F, τ, vs, ds, s, d', e, k⟩ => by
  cases (show some d = some d' from e)
  exact k v _ (hd F).o
theorem z_int {i j pos} : PE X (.Constant (.int i) j pos) (rdZ X.K B (zC (.int i))) := z_c pe_int fun _ => rfl
theorem z_bl {b j pos} : PE X (.Constant (.bool b) j pos) (rdZ X.K B (zC (.bl b))) := z_c pe_bl fun _ => rfl
theorem z_str {x j pos} : PE X (.Constant (.str x) j pos) (rdZ X.K B (zC (.str x))) := z_c pe_str fun _ => rfl
theorem z_ty {x : Str} {n : String} {pos : Pos} (hg : Gl X x) (hm : X.mg x = none) (hv : bootBuiltins x = some (.type n)) (hn : x ≠ "__name__" := by decide) (hd : (x == ("__debug__" : Str)) = false := by decide) : PE X (.Name x pos) (rdZ X.K B (zC (.ty n))) :=
  z_c (pe_bltn (v := .ty n) hg hm hv rfl hn hd) fun _ => rfl
def eZ (m : MZ) : ME := fun τ => match m τ with
  | some d => if isFz d = true then .ok d τ else .bad
  | none => .bad
theorem e_z {e : Expr} {m : MZ} (h : PE X e (rdZ X.K B m)) : PE X e (rdE X.K B W (eZ m)) := PE.imp h fun σ H Q ⟨F, τ, vs, ds, s, k⟩ => by
  unfold eZ at k
  cases e : m τ with
  | none => rw [e] at k; exact k.elim
  | some d =>
    rw [e] at k
    by_cases z : isFz d = true
    · simp only [z, if_true] at k
      exact ⟨F, τ, vs, ds, s, d, e, fun v f r => k v F H (s.push ((repO_fz z).mp r).1)⟩
    · simp only [z] at k
      exact k.elim
def eVar (i : Nat) : ME := fun τ => match τ.getD i none with
  | some d => if isFz d = true then .ok d τ else .ok (freeze d) (τ.set i (some (freeze d)))
  | none => .bad
theorem e_var {i : Nat} {e : Expr} (h : PE X e (tVar i)) : PE X e (rdE X.K B W (eVar i)) := PE.imp h fun σ H Q ⟨F, τ, vs, ds, s, k⟩ => by
  unfold eVar at k
  cases e : τ.getD i none with
  | none => rw [e] at k; exact k.elim
  | some d =>
    rw [e] at k
    have e' := getD_some e
    by_cases z : isFz d = true
    · simp only [z, if_true] at k
      obtain ⟨v, f, h1, h2⟩ := s.get e'
      exact ⟨v, h1, k v F H (s.push ((repO_fz z).mp h2).1)⟩
    · simp only [z] at k
      obtain ⟨v, h1, s1⟩ := s.take e'
      obtain ⟨F', sm, ⟨_, _, e2, r, _⟩, s2⟩ := StT.freeze (us := [v]) (es := [d]) s1 rfl
      cases e2
      have s3 := StT.putBack (s2.push r) (i := i) (by rw [List.length_set]; exact (List.getElem?_eq_some_iff.mp e').1) h1
      rw [List.set_set] at s3
      exact ⟨v, h1, k v F' H (s3.push r)⟩
def eMv (i : Nat) : ME := fun τ => match τ.getD i none with
  | some d => .ok d (τ.set i none)
  | none => .bad
theorem e_mv {i : Nat} {e : Expr} (h : PE X e (tVar i)) : PE X e (rdE X.K B W (eMv i)) := PE.imp h fun σ H Q ⟨F, τ, vs, ds, s, k⟩ => by
  unfold eMv at k
  cases e : τ.getD i none with
  | none => rw [e] at k; exact k.elim
  | some d =>
    rw [e] at k
    obtain ⟨v, h1, s1⟩ := s.take (getD_some e)
    exact ⟨v, h1, k v F H s1⟩
def OpS (K : PySem.W.Frag) (r : R2) (g : D → D → Option D) : Prop := ∀ (ca : Str → Addr) (F H : Hp) (x y : V) (a b d : D) (f1 f2 : Ct) (Q : VK), Same F H → RepO K ca F H a x f1 → RepO K ca F H b y f2 → g a b = some d → (∀ v f, RepO K ca F H d v f → Q v H) → r x y H Q
def CallS (K : PySem.W.Frag) (r : List V → Hp → VK → Prop) (g : List D → Option D) : Prop := ∀ (ca : Str → Addr) (F H : Hp) (xs : List V) (as : List D) (d : D) (f1 : Ct) (Q : VK), Same F H → RepOs K ca F H as xs f1 → g as = some d → (∀ v f, RepO K ca F H d v f → Q v H) → r xs H Q
def z2 (g : D → D → Option D) (m n : MZ) : MZ := fun τ => (m τ).bind fun a => (n τ).bind fun b => g a b
def z1 (g : D → Option D) (m : MZ) : MZ := fun τ => (m τ).bind g
def ofO (o : Option D) (τ : Env) : R D := match o with
  | some d => if isFz d = true then .ok d τ else .bad
  | none => .bad
def e2 (g : D → D → Option D) (m n : ME) : ME := fun τ => (m τ).bind fun a τ1 => (n τ1).bind fun b τ2 => ofO (g a b) τ2
def e1 (g : D → Option D) (m : ME) : ME := fun τ => (m τ).bind fun a τ1 => ofO (g a) τ1
def eC (g : List D → Option D) (m : MA) : ME := fun τ => (m τ).bind fun a τ1 => ofO (g a) τ1
theorem post_ofO {y : D → Env → Prop} {x : Str → Env → Prop} {o : Option D} {τ : Env} (h : post y x (ofO o τ)) : ∃ d, o = some d ∧ isFz d = true ∧ y d τ := by
  unfold ofO at h
  cases o with
  | none => exact h.elim
  | some d =>
    by_cases z : isFz d = true
    · simp only [z, if_true] at h; exact ⟨d, rfl, z, h⟩
    · simp only [z] at h; exact h.elim
theorem bind_some {α β : Type} {o : Option α} {k : α → Option β} {d : β} (h : o.bind k = some d) : ∃ a, o = some a ∧ k a = some d := by
  cases o with
  | none => cases h
  | some a => exact ⟨a, rfl, h⟩
theorem imp2Z {r : R2} {g : D → D → Option D} {m n : MZ} (hs : OpS X.K r g) (σ : L2.St) (H : Hp) (Q : VK) (h : rdZ X.K B (z2 g m n) σ H Q) : tOp r (rdZ X.K B m) (rdZ X.K B n) σ H Q := by
  obtain ⟨F, τ, vs, ds, s, d, e, k⟩ := h
  obtain ⟨a, ea, e⟩ := bind_some e
  obtain ⟨b, eb, e⟩ := bind_some e
  exact ⟨F, τ, vs, ds, s, a, ea, fun x f1 hx => ⟨F, τ, vs, ds, s, b, eb, fun y f2 hy => hs _ _ _ _ _ _ _ _ _ _ _ s.same hx hy e k⟩⟩
theorem imp2E {r : R2} {g : D → D → Option D} {m n : ME} (hs : OpS X.K r g) (σ : L2.St) (H : Hp) (Q : VK) (h : rdE X.K B W (e2 g m n) σ H Q) : tOp r (rdE X.K B W m) (rdE X.K B W n) σ H Q := by
  obtain ⟨F, τ, vs, ds, s, p⟩ := h
  refine ⟨F, τ, vs, ds, s, post_imp (post_bind p) (fun a τ1 q x F1 H1 s1 => ⟨F1, τ1, _, _, s1, post_imp (post_bind q) (fun b τ2 q y F2 H2 s2 => ?_) fun c τ2 q F2 H2 s2 => q F2 H2 s2.pop⟩) fun _ _ q => q⟩
  obtain ⟨d, e, z, q⟩ := post_ofO q
  obtain ⟨f2, hy⟩ := s2.top
  obtain ⟨f1, hx⟩ := s2.pop.top
  exact hs _ _ _ _ _ _ _ _ _ _ _ s2.same hx hy e fun v f hv => q v F2 H2 (s2.pop.pop.push ((repO_fz z).mp hv).1)
theorem z_op {op : Operator} {a b : Expr} {pos : Pos} {r : R2} {g : D → D → Option D} {m n : MZ} (ho : OpR X (binaryOp op) r) (hs : OpS X.K r g) (ha : PE X a (rdZ X.K B m)) (hb : PE X b (rdZ X.K B n)) : PE X (.BinOp a op b pos) (rdZ X.K B (z2 g m n)) := PE.imp (pe_op ho ha hb) (imp2Z hs)
theorem e_op {op : Operator} {a b : Expr} {pos : Pos} {r : R2} {g : D → D → Option D} {m n : ME} (ho : OpR X (binaryOp op) r) (hs : OpS X.K r g) (ha : PE X a (rdE X.K B W m)) (hb : PE X b (rdE X.K B W n)) : PE X (.BinOp a op b pos) (rdE X.K B W (e2 g m n)) := PE.imp (pe_op ho ha hb) (imp2E hs)
theorem z_ix {a b : Expr} {pos : Pos} {r : R2} {g : D → D → Option D} {m n : MZ} (ho : IxR X r) (hs : OpS X.K r g) (ha : PE X a (rdZ X.K B m)) (hb : PE X b (rdZ X.K B n)) (hp : PlainIx b := by exact fun _ _ => rfl) : PE X (.Subscript a b pos) (rdZ X.K B (z2 g m n)) := PE.imp (pe_ix ho ha hb hp) (imp2Z hs)
theorem e_ix {a b : Expr} {pos : Pos} {r : R2} {g : D → D → Option D} {m n : ME} (ho : IxR X r) (hs : OpS X.K r g) (ha : PE X a (rdE X.K B W m)) (hb : PE X b (rdE X.K B W n)) (hp : PlainIx b := by exact fun _ _ => rfl) : PE X (.Subscript a b pos) (rdE X.K B W (e2 g m n)) := PE.imp (pe_ix ho ha hb hp) (imp2E hs)
theorem e_cmp {op : CmpOp} {a b : Expr} {pos : Pos} {r : R2} {g : D → D → Option D} {m n : ME} (ho : OpR X (compareOp op) r) (hs : OpS X.K r g) (ha : PE X a (rdE X.K B W m)) (hb : PE X b (rdE X.K B W n)) (hm : behindInMarks op b = false := by first | exact nomark _ | rfl) : PE X (.Compare a [op] [b] pos) (rdE X.K B W (e2 g m n)) := PE.imp (pe_cmpR ho ha hb hm) (imp2E hs)
def tE (m : ME) : MT := fun τ => (m τ).bind fun d τ1 => match d with
  | .bl b => .ok b τ1
  | _ => .bad
def tZ (m : MZ) : MT := fun τ => match m τ with
  | some (.bl b) => .ok b τ
  | _ => .bad
theorem impTE {m : ME} (σ : L2.St) (H : Hp) (Q : Bool → Hp → Prop) (h : rdT X.K B W (tE m) σ H Q) : rdE X.K B W m σ H fun x H' => ∃ k, x = .bl k ∧ Q k H' := by
  obtain ⟨F, τ, vs, ds, s, p⟩ := h
  refine ⟨F, τ, vs, ds, s, post_imp (post_bind p) (fun d τ1 q x F1 H1 s1 => ?_) fun _ _ q => q⟩
  cases d with
  | bl b => exact ⟨b, s1.topF rfl, q F1 H1 s1.pop⟩
  | _ => exact False.elim q
theorem impTZ {m : MZ} (σ : L2.St) (H : Hp) (Q : Bool → Hp → Prop) (h : rdT X.K B W (tZ m) σ H Q) : rdZ X.K B m σ H fun x H' => ∃ k, x = .bl k ∧ Q k H' := by
  obtain ⟨F, τ, vs, ds, s, p⟩ := h
  unfold tZ at p
  cases e : m τ with
  | none => rw [e] at p; exact False.elim p
  | some d =>
    rw [e] at p
    cases d with
    | bl b => exact ⟨F, τ, vs, ds, s, _, e, fun v f r => ⟨b, r.1, p F H s⟩⟩
    | _ => exact False.elim p
theorem t_valZ {e : Expr} {m : MZ} (h : PE X e (rdZ X.K B m)) (he : ∀ whole, isTrue e X.env whole = (do let v ← whole; standAt e.pos; holding [v] (truthy v)) := by intro _; rfl) : PT X e (rdT X.K B W (tZ m)) := PT.imp (pt_val h he) impTZ
theorem t_valE {e : Expr} {m : ME} (h : PE X e (rdE X.K B W m)) (he : ∀ whole, isTrue e X.env whole = (do let v ← whole; standAt e.pos; holding [v] (truthy v)) := by intro _; rfl) : PT X e (rdT X.K B W (tE m)) := PT.imp (pt_val h he) impTE
theorem t_cmpZ {op : CmpOp} {a b : Expr} {pos : Pos} {r : R2} {g : D → D → Option D} {m n : MZ} (ho : OpR X (compareOp op) r) (hs : OpS X.K r g) (ha : PE X a (rdZ X.K B m)) (hb : PE X b (rdZ X.K B n)) (hm : behindInMarks op b = false := by first | exact nomark _ | rfl) : PT X (.Compare a [op] [b] pos) (rdT X.K B W (tZ (z2 g m n))) :=
  PT.imp (pt_cmpR ho ha hb hm) fun σ H Q h => imp2Z hs σ H _ (impTZ σ H Q h)
theorem t_cmpE {op : CmpOp} {a b : Expr} {pos : Pos} {r : R2} {g : D → D → Option D} {m n : ME} (ho : OpR X (compareOp op) r) (hs : OpS X.K r g) (ha : PE X a (rdE X.K B W m)) (hb : PE X b (rdE X.K B W n)) (hm : behindInMarks op b = false := by first | exact nomark _ | rfl) : PT X (.Compare a [op] [b] pos) (rdT X.K B W (tE (e2 g m n))) :=
  PT.imp (pt_cmpR ho ha hb hm) fun σ H Q h => imp2E hs σ H _ (impTE σ H Q h)
def tAnd (a b : MT) : MT := fun τ => (a τ).bind fun x τ1 => if x = true then b τ1 else .ok false τ1
def tOr (a b : MT) : MT := fun τ => (a τ).bind fun x τ1 => if x = true then .ok true τ1 else b τ1
def tNot (a : MT) : MT := fun τ => (a τ).bind fun x τ1 => .ok (!x) τ1
theorem t_or1 {a : Expr} {pos : Pos} {m : MT} (ha : PT X a (rdT X.K B W m)) : PW X (.BoolOp .Or [a] pos) (rdT X.K B W m) := pw_or1 ha
theorem t_or {a b : Expr} {r : List Expr} {pos : Pos} {m n : MT} (ha : PT X a (rdT X.K B W m)) (hb : PW X (.BoolOp .Or (b :: r) pos) (rdT X.K B W n)) : PW X (.BoolOp .Or (a :: b :: r) pos) (rdT X.K B W (tOr m n)) := PW.imp (pw_or ha hb) fun σ H Q h => by
  obtain ⟨F, τ, vs, ds, s, p⟩ := h
  refine ⟨F, τ, vs, ds, s, post_imp (post_bind p) (fun b τ1 q F1 H1 s1 => ?_) fun _ _ q => q⟩
  cases b with
  | false => exact ⟨F1, τ1, vs, ds, s1, q⟩
  | true => exact q F1 H1 s1
theorem t_not {a : Expr} {pos : Pos} {m : MT} (ha : PT X a (rdT X.K B W m)) : PT X (.UnaryOp .Not a pos) (rdT X.K B W (tNot m)) := PT.imp (pt_not ha) fun σ H Q h => by
  obtain ⟨F, τ, vs, ds, s, p⟩ := h
  exact ⟨F, τ, vs, ds, s, post_imp (post_bind p) (fun b τ1 q F1 H1 s1 => q F1 H1 s1) fun _ _ q => q⟩
def zChain (g g' : D → D → Option D) (a b c : MZ) : MZ := fun τ => (a τ).bind fun x => (b τ).bind fun y => (g x y).bind fun z => match z with
  | .bl true => (c τ).bind fun w => g' y w
  | .bl false => some (.bl false)
  | _ => none
def eAnd (a b : ME) : ME := fun τ => (a τ).bind fun x τ1 => match x with
  | .bl true => b τ1
  | .bl false => .ok (.bl false) τ1
  | _ => .bad
def eOr (a b : ME) : ME := fun τ => (a τ).bind fun x τ1 => match x with
  | .bl false => b τ1
  | .bl true => .ok (.bl true) τ1
  | _ => .bad
def eNot (a : ME) : ME := fun τ => (a τ).bind fun x τ1 => match x with
  | .bl b => .ok (.bl (!b)) τ1
  | _ => .bad
def eIf (c : MT) (a b : ME) : ME := fun τ => (c τ).bind fun x τ1 => if x = true then a τ1 else b τ1
theorem e_one {op : BoolOp} {a : Expr} {pos : Pos} {m : ME} (h : PE X a (rdE X.K B W m)) : PE X (.BoolOp op [a] pos) (rdE X.K B W m) := pe_one h
theorem e_and {a b : Expr} {r : List Expr} {pos : Pos} {m n : ME} (ha : PE X a (rdE X.K B W m)) (hb : PE X (.BoolOp .And (b :: r) pos) (rdE X.K B W n)) : PE X (.BoolOp .And (a :: b :: r) pos) (rdE X.K B W (eAnd m n)) := PE.imp (pe_and ha hb) fun σ H Q h => by
  obtain ⟨F, τ, vs, ds, s, p⟩ := h
  refine ⟨F, τ, vs, ds, s, post_imp (post_bind p) (fun d τ1 q x F1 H1 s1 => ?_) fun _ _ q => q⟩
  cases d with
  | bl b =>
    refine ⟨b, s1.topF rfl, ?_⟩
    cases b with
    | true => exact ⟨F1, τ1, vs, ds, s1.pop, q⟩
    | false => exact q _ F1 H1 (s1.pop.push (d := .bl false) rfl)
  | _ => exact False.elim q
theorem e_not {a : Expr} {pos : Pos} {m : ME} (ha : PE X a (rdE X.K B W m)) : PE X (.UnaryOp .Not a pos) (rdE X.K B W (eNot m)) := PE.imp (pe_not ha) fun σ H Q h => by
  obtain ⟨F, τ, vs, ds, s, p⟩ := h
  refine ⟨F, τ, vs, ds, s, post_imp (post_bind p) (fun d τ1 q x F1 H1 s1 => ?_) fun _ _ q => q⟩
  cases d with
  | bl b => exact ⟨b, s1.topF rfl, q _ F1 H1 (s1.pop.push (d := .bl (!b)) rfl)⟩
  | _ => exact False.elim q
def aNil : MA := fun τ => .ok [] τ
def aCons (m : ME) (n : MA) : MA := fun τ => (m τ).bind fun d τ1 => (n τ1).bind fun ds τ2 => .ok (d :: ds) τ2
theorem a_nil : PA X [] (rdA X.K B W aNil) := PA.imp pa_nil fun σ H Q ⟨F, τ, vs, ds, s, p⟩ => p [] F H rfl s
theorem a_cons {e : Expr} {es : List Expr} {m : ME} {n : MA} (ha : PE X e (rdE X.K B W m)) (hr : PA X es (rdA X.K B W n)) (hs : starEach (e :: es) X.env = (false, eval e X.env) :: starEach es X.env := by rfl) : PA X (e :: es) (rdA X.K B W (aCons m n)) := PA.imp (pa_cons ha hr hs) fun σ H Q h => by
  obtain ⟨F, τ, vs, ds, s, p⟩ := h
  refine ⟨F, τ, vs, ds, s, post_imp (post_bind p) (fun a τ1 q x F1 H1 s1 => ⟨F1, τ1, _, _, s1, post_imp (post_bind q) (fun es τ2 q us F2 H2 hl s2 => ?_) fun c τ2 q F2 H2 s2 => q F2 H2 s2.pop⟩) fun _ _ q => q⟩
  exact q (x :: us) F2 H2 (by rw [List.length_cons, List.length_cons, hl]) (s2.swap hl)
def rdZA (K : PySem.W.Frag) (B : Bx) (m : Env → Option (List D)) : TA := fun σ H Q => ∃ F τ vs ds, StT K B F H σ τ vs ds ∧ ∃ es, m τ = some es ∧ ∀ us f, RepOs K B.ca F H es us f → Q us H
def zaNil : Env → Option (List D) := fun _ => some []
def zaCons (m : MZ) (n : Env → Option (List D)) : Env → Option (List D) := fun τ => (m τ).bind fun d => (n τ).bind fun ds => some (d :: ds)
theorem za_nil : PA X [] (rdZA X.K B zaNil) := PA.imp pa_nil fun σ H Q ⟨F, τ, vs, ds, s, es, e, k⟩ => by
  cases (show some [] = some es from e)
  exact k [] (fun _ => 0) ⟨rfl, fun _ => rfl⟩
theorem za_cons {e : Expr} {es : List Expr} {m : MZ} {n : Env → Option (List D)} (ha : PE X e (rdZ X.K B m)) (hr : PA X es (rdZA X.K B n)) (hs : starEach (e :: es) X.env = (false, eval e X.env) :: starEach es X.env := by rfl) : PA X (e :: es) (rdZA X.K B (zaCons m n)) := PA.imp (pa_cons ha hr hs) fun σ H Q h => by
  obtain ⟨F, τ, vs, ds, s, es, e, k⟩ := h
  obtain ⟨a, ea, e⟩ := bind_some e
  obtain ⟨bs, eb, e⟩ := bind_some e
  cases (show some (a :: bs) = some es from e)
  exact ⟨F, τ, vs, ds, s, a, ea, fun x f1 hx => ⟨F, τ, vs, ds, s, bs, eb, fun us f2 hu => k (x :: us) (fun b => f1 b + f2 b) ⟨x, us, f1, f2, rfl, hx, hu, fun _ => rfl⟩⟩⟩
def zC' (g : List D → Option D) (m : Env → Option (List D)) : MZ := fun τ => (m τ).bind g
theorem impCZ {r : List V → Hp → VK → Prop} {g : List D → Option D} {m : Env → Option (List D)} (hs : CallS X.K r g) (σ : L2.St) (H : Hp) (Q : VK) (h : rdZ X.K B (zC' g m) σ H Q) : tCB r (rdZA X.K B m) σ H Q := by
  obtain ⟨F, τ, vs, ds, s, d, e, k⟩ := h
  obtain ⟨a, ea, e⟩ := bind_some e
  exact ⟨F, τ, vs, ds, s, a, ea, fun us f hu => hs _ _ _ _ _ _ _ _ s.same hu e k⟩
section
variable {x : Str} {p pos : Pos} {e : Expr} {es : List Expr} {id T : String} {r : List V → Hp → VK → Prop} {g : List D → Option D}
theorem z_callB {m : Env → Option (List D)} (hc : CallR X (.builtin id) r) (hs : CallS X.K r g) (hg : Gl X x) (hm : X.mg x = none) (hv : bootBuiltins x = some (.builtin id)) (ha : PA X (e :: es) (rdZA X.K B m)) (hn : x ≠ "__name__" := by decide) (hdb : (x == ("__debug__" : Str)) = false := by decide)
    (he : starEach (e :: es) X.env = (false, eval e X.env) :: starEach es X.env := by rfl) (hpl : (backTo pos (starEach es X.env)).any (·.1) = false := by rfl) : PE X (.Call (.Name x p) (e :: es) [] pos) (rdZ X.K B (zC' g m)) := PE.imp (pe_callB hc hg hm hv ha hn hdb he hpl) (impCZ hs)
end
def eTup (m : MA) : ME := fun τ => (m τ).bind fun ds τ1 => if ds.length ≤ 1000000 then .ok (.tup (freezeL ds)) τ1 else .bad
def eLst (m : MA) : ME := fun τ => (m τ).bind fun ds τ1 => if ds.length ≤ 1000000 then .ok (.lst true ds) τ1 else .bad
theorem le_sizeLine {n : Nat} (h : n ≤ 1000000) : n ≤ sizeLine := by rw [sizeLine_eq]; omega
theorem e_tup {es : List Expr} {k : Nat} {pos : Pos} {m : MA} (h : PA X es (rdA X.K B W m)) : PE X (.Tuple es k pos) (rdE X.K B W (eTup m)) := PE.imp (pe_tup h) fun σ H Q h => by
  obtain ⟨F, τ, vs, ds, s, p⟩ := h
  refine ⟨F, τ, vs, ds, s, post_imp (post_bind p) (fun es τ1 q us F1 H1 hl s1 => ?_) fun _ _ q => q⟩
  by_cases z : es.length ≤ 1000000
  · simp only [z, if_true] at q
    refine ⟨le_sizeLine (hl ▸ z), fun p hp => ?_⟩
    obtain ⟨F2, sm, rl, s2⟩ := s1.freeze hl
    exact q _ _ _ (s2.newTup hp rl)
  · simp only [z] at q; exact False.elim q
theorem e_lst {es : List Expr} {pos : Pos} {m : MA} (h : PA X es (rdA X.K B W m)) : PE X (.List es pos) (rdE X.K B W (eLst m)) := PE.imp (pe_lst h) fun σ H Q h => by
  obtain ⟨F, τ, vs, ds, s, p⟩ := h
  refine ⟨F, τ, vs, ds, s, post_imp (post_bind p) (fun es τ1 q us F1 H1 hl s1 => ?_) fun _ _ q => q⟩
  by_cases z : es.length ≤ 1000000
  · simp only [z, if_true] at q
    exact ⟨le_sizeLine (hl ▸ z), fun p hp => q _ _ _ (s1.newLst hl hp)⟩
  · simp only [z] at q; exact False.elim q
end
end Bn
namespace Bn
open PySem PySem.Spec PyProof.Rows L2
structure XOk (X : Cx) (W : WX) : Prop where
  tk : Takes X W
  hp : PassesOwn (model X.prog X.w) X.A X.env X.xe
  calm : X.calm = true
abbrev W0 : WX := fun _ _ _ _ => False
def spP (K : PySem.W.Frag) (ca : Str → Addr) (g : List D → CR) : Sp := fun vs H Q E => ∃ F ds, Same F H ∧ RepL K ca F ds vs ∧
  match g ds with
  | .ok d => ∀ v F' H' f, Same F F' → Same F' H' → Same H H' → RepO K ca F' H' d v f → (∀ a, f a ≤ 1) → (∀ a, 0 < f a → F' a = none ∧ H a = none) → (∀ a, F' a ≠ none → F a ≠ none ∨ H a = none) → Q v H'
  | .ex c => ∀ H', Same H H' → E (.ref (ca c)) none H'
  | .bad => False
structure Fo (P : Program) (w : World) (K : PySem.W.Frag) (mg : Str → Option Value) (base : Heap) (ca : Str → Addr) (k : Nat) (x : Str) (g : List D → CR) : Prop where
  ex : ∃ f fd ps, mg x = some (.ref f) ∧ PySem.W.keepIn K (.ref f) = true ∧ Binds K fd ps [] ∧ FnOk P w K mg base (L2.CX P w) k f fd ps (spP K ca g)
def ofC (r : CR) (τ : Env) : R D := match r with
  | .ok d => .ok d τ
  | .ex c => .ex c τ
  | .bad => .bad
def eCall (g : List D → CR) (m : MA) : ME := fun τ => (m τ).bind fun ds τ1 => ofC (g (freezeL ds)) τ1
def eCall0 (g : List D → CR) : ME := fun τ => match g [] with
  | .ok d => .ok d τ
  | _ => .bad
section
variable {X : Cx} {B : Bx} {W : WX}
theorem e_call {x : Str} {p pos : Pos} {e : Expr} {es : List Expr} {m : MA} {g : List D → CR} {k j : Nat} (c : XOk X W) (G : Fo X.prog X.w X.K X.mg X.base B.ca k x g) (hr : Room j X.A) (hg : Gl X x) (ha : PA X (e :: es) (rdA X.K B W m)) (hk : k ≤ j := by decide) (hdb : (x == ("__debug__" : Str)) = false := by decide)
    (he : starEach (e :: es) X.env = (false, eval e X.env) :: starEach es X.env := by rfl) (hpl : (backTo pos (starEach es X.env)).any (·.1) = false := by rfl) : PE X (.Call (.Name x p) (e :: es) [] pos) (rdE X.K B W (eCall g m)) := by
  obtain ⟨f, fd, ps, h1, h2, h3, h4⟩ := G.ex
  refine PE.imp (pe_callS h4 (hr.mono hk) hg h1 h2 h3 (fun σ => passAt c.tk σ) ha hdb he hpl) fun σ H Q h => ?_
  obtain ⟨F, τ, vs, ds, s, p⟩ := h
  refine ⟨F, τ, vs, ds, s, post_imp (post_bind p) (fun as τ1 q us F1 H1 hl s1 => ?_) fun _ _ q => q⟩
  obtain ⟨F2, sm, rl, s2⟩ := s1.freeze hl
  refine ⟨F2, freezeL as, s2.same, rl, ?_⟩
  cases eg : g (freezeL as) with
  | ok d => rw [eg] at q; exact fun v F' H' f k1 k2 k3 k4 k5 k6 k7 => q v F' H' (s2.called k1 k2 k3 k4 k5 k6 k7)
  | ex c => rw [eg] at q; exact fun H' k1 => q F2 H' (s2.grown k1)
  | bad => rw [eg] at q; exact q
def R.s {α : Type} : R α → (α → Env → SR) → SR
  | .ok a τ, k => k a τ
  | .ex c τ, _ => .ex c τ
  | .bad, _ => .bad
theorem post_s {α : Type} {K : PySem.W.Frag} {vs : List V} {ds : List D} {D' : Ends} {r : R α} {k : α → Env → SR} {σ : L2.St} (h : postS K B W vs ds D' (r.s k)) : post (fun a τ => postS K B W vs ds D' (k a τ)) (exW K B W σ vs ds) r := by
  cases r with
  | ok a τ => exact h
  | ex c τ => exact fun F H s => h σ F H s
  | bad => exact h
def sSeq (s r : MS) : MS := fun τ => match s τ with
  | .nx τ' => r τ'
  | .rt d τ' => .rt d τ'
  | .bk τ' => .bk τ'
  | .ct τ' => .ct τ'
  | .ex c τ' => .ex c τ'
  | .bad => .bad
def sNil : MS := fun τ => .nx τ
theorem s_nil : PSs X [] (rdS X.K B W sNil) := PSs.imp pss_nil fun D σ H ⟨F, τ, vs, ds, s, p⟩ => p σ F H s
theorem s_one {st : Stmt} {m : MS} (h : PS X st (rdS X.K B W m)) : PSs X [st] (rdS X.K B W m) := pss_one h
theorem s_cons {st : Stmt} {r : List Stmt} {m n : MS} (h : PS X st (rdS X.K B W m)) (hr : PSs X r (rdS X.K B W n)) : PSs X (st :: r) (rdS X.K B W (sSeq m n)) := PSs.imp (pss_cons h hr) fun D σ H ⟨F, τ, vs, ds, s, p⟩ => by
  refine ⟨F, τ, vs, ds, s, ?_⟩
  unfold sSeq at p
  cases e : m τ with
  | nx τ' => rw [e] at p; exact fun σ' F' H' s' => ⟨F', τ', vs, ds, s', p⟩
  | _ => rw [e] at p; exact p
def sRet (m : ME) : MS := fun τ => (m τ).s fun d τ1 => .rt d τ1
theorem s_ret {e : Expr} {pos : Pos} {m : ME} (h : PE X e (rdE X.K B W m)) : PS X (.Return (some e) pos) (rdS X.K B W (sRet m)) := PS.imp (ps_ret h) fun D σ H ⟨F, τ, vs, ds, s, p⟩ =>
  ⟨F, τ, vs, ds, s, post_imp (post_s (σ := σ) p) (fun d τ1 q v F1 H1 s1 => q v σ F1 H1 s1) fun _ _ q => q⟩
def sRetN : MS := fun τ => .rt .non τ
def sDrop (m : ME) : MS := fun τ => (m τ).s fun _ τ1 => .nx τ1
def sBk : MS := fun τ => .bk τ
def sCt : MS := fun τ => .ct τ
def sIf (c : MT) (a b : MS) : MS := fun τ => (c τ).s fun x τ1 => if x = true then a τ1 else b τ1
theorem s_if {c : Expr} {a b : List Stmt} {pos : Pos} {t : MT} {m n : MS} (hc : PT X c (rdT X.K B W t)) (ha : PSs X a (rdS X.K B W m)) (hb : PSs X b (rdS X.K B W n)) : PS X (.If c a b pos) (rdS X.K B W (sIf t m n)) := PS.imp (ps_if hc ha hb) fun D σ H ⟨F, τ, vs, ds, s, p⟩ => by
  refine ⟨F, τ, vs, ds, s, post_imp (post_s (σ := σ) p) (fun x τ1 q F1 H1 s1 => ?_) fun _ _ q => q⟩
  cases x with
  | true => exact ⟨F1, τ1, vs, ds, s1, q⟩
  | false => exact ⟨F1, τ1, vs, ds, s1, q⟩
def gN (i : Nat) : D → Env → Option Env := fun d τ => some (τ.set i (some d))
theorem StT.put' {K : PySem.W.Frag} {F H : Hp} {σ : L2.St} {τ : Env} {vs : List V} {ds : List D} {v : V} {d : D} {i : Nat} (s : StT K B F H σ τ (v :: vs) (d :: ds)) (hf : ioFree B i) : StT K B F H (σ.set i (some v)) (τ.set i (some d)) vs ds := by
  by_cases h : i < τ.length
  · exact s.put h hf
  · have hl : σ.length = τ.length := by obtain ⟨f1, f2, a, _⟩ := s; exact a.length
    rw [List.set_eq_of_length_le (by omega), List.set_eq_of_length_le (by omega)]
    exact s.pop
theorem g_name {i : Nat} {x : Str} {pos : Pos} (hN : X.N.Nodup) (hi : X.N[i]? = some x) (hx : Loc X.env.scope x) (hio : ioFree B i := by first | (intro p hp; cases hp; done) | (intro p hp; simp only [List.mem_cons, List.not_mem_nil, or_false] at hp; rcases hp with rfl | rfl <;> simp) | (intro p hp; simp only [List.mem_cons, List.not_mem_nil, or_false] at hp; rcases hp with rfl | rfl | rfl <;> simp) | (intro p hp; simp only [List.mem_cons, List.not_mem_nil, or_false] at hp; subst hp; simp)) (hf : X.fn x = true ∨ X.env.scope.names.lookup x = some .local := by first | exact .inl rfl | exact .inr rfl | assumption) : PG X (.Name x pos) (rdG X.K B [i] (gN i)) :=
  PG.imp (pg_name hN hi hx hf) fun v σ H Q ⟨F, τ, vs, ds, d, s, τ', e, k⟩ => by
    cases (show some (τ.set i (some d)) = some τ' from e)
    refine k _ F H (s.put' hio) (by rw [List.length_set]) fun j hj => ?_
    rw [List.getElem?_set_ne]
    exact fun e => hj (by simp [e])
def gNil' : List D → Env → Option Env := fun ds τ => match ds with
  | [] => some τ
  | _ => none
def gCons' (g : D → Env → Option Env) (h : List D → Env → Option Env) : List D → Env → Option Env := fun ds τ => match ds with
  | d :: r => (g d τ).bind (h r)
  | [] => none
def gT (n : Nat) (g : List D → Env → Option Env) : D → Env → Option Env := fun d τ => match d with
  | .tup es => if es.length = n then g es τ else none
  | _ => none
theorem gs_nil : PGs X [] (rdGs X.K B [] gNil') := PGs.imp pgs_nil fun ws σ H Q ⟨F, τ, vs, ds, es, hl, s, τ', e, k⟩ => by
  cases es with
  | nil =>
    cases (show some τ = some τ' from e)
    have : ws = [] := List.eq_nil_of_length_eq_zero hl
    subst this
    exact ⟨rfl, k σ F H s rfl fun _ _ => rfl⟩
  | cons a b => cases e
theorem gs_cons {e : Expr} {es : List Expr} {sl sl' : List Nat} {g : D → Env → Option Env} {h : List D → Env → Option Env} (h1 : PG X e (rdG X.K B sl g)) (h2 : PGs X es (rdGs X.K B sl' h))
    (hs : (assignEach (e :: es) X.env).map (·.2) = assign e X.env :: (assignEach es X.env).map (·.2) := by rfl) : PGs X (e :: es) (rdGs X.K B (sl ++ sl') (gCons' g h)) := PGs.imp (pgs_cons h1 h2 hs) fun ws σ H Q ⟨F, τ, vs, ds, es, hl, s, τ', e, k⟩ => by
  cases es with
  | nil => cases e
  | cons d r =>
    obtain ⟨τ1, e1, e⟩ := bind_some e
    cases ws with
    | nil => cases hl
    | cons v ws =>
      refine ⟨v, ws, rfl, F, τ, ws ++ vs, r ++ ds, d, s, τ1, e1, fun σ1 F1 H1 s1 l1 k1 => ⟨F1, τ1, vs, ds, r, by simpa using hl, s1, τ', e, fun σ2 F2 H2 s2 l2 k2 => k σ2 F2 H2 s2 (l2.trans l1) fun j hj => ?_⟩⟩
      rw [k2 j fun z => hj (List.mem_append_right _ z), k1 j fun z => hj (List.mem_append_left _ z)]
theorem g_tup {es : List Expr} {k : Nat} {pos : Pos} {sl : List Nat} {g : List D → Env → Option Env} {n : Nat} (hc : X.calm = true) (h : PGs X es (rdGs X.K B sl g)) (hn : (assignEach es X.env).length = n := by rfl) (hst : (assignEach es X.env).findIdx? (·.1) = none := by rfl) : PG X (.Tuple es k pos) (rdG X.K B sl (gT n g)) :=
  PG.imp (pg_tup hc h hn hst) fun v σ H Q ⟨F, τ, vs, ds, d, s, τ', e, k⟩ => by
    cases d with
    | tup xs =>
      obtain ⟨a, us, e1, h1, h2⟩ := s.topF rfl
      subst e1
      by_cases hl : xs.length = n
      · have e' : g xs τ = some τ' := by
          have e' : (if xs.length = n then g xs τ else none) = some τ' := e
          rw [if_pos hl] at e'; exact e'
        have hul := h2.length
        refine ⟨a, us, rfl, sqT_same s.same h1, hul.trans hl, F, τ, vs, ds, xs, hul, ?_, τ', e', k⟩
        obtain ⟨f1, f2, A, b, w, io⟩ := s.pop
        have b2 := (h2.os (H := H)).append b
        have e3 : (fun b => 0 + f2 b) = f2 := funext fun b => by omega
        rw [e3] at b2
        exact ⟨f1, f2, A, b2, w, io⟩
      · have e' : (if xs.length = n then g xs τ else none) = some τ' := e
        rw [if_neg hl] at e'; cases e'
    | _ => cases e
def sAsg (m : ME) (g : D → Env → Option Env) : MS := fun τ => (m τ).s fun d τ1 => match g d τ1 with
  | some τ2 => .nx τ2
  | none => .bad
theorem s_set {i : Nat} {x : Str} {e : Expr} {pos pos' : Pos} {m : ME} (hN : X.N.Nodup) (hi : X.N[i]? = some x) (hx : Loc X.env.scope x) (he : PE X e (rdE X.K B W m)) (hio : ioFree B i := by first | (intro p hp; cases hp; done) | (intro p hp; simp only [List.mem_cons, List.not_mem_nil, or_false] at hp; rcases hp with rfl | rfl <;> simp) | (intro p hp; simp only [List.mem_cons, List.not_mem_nil, or_false] at hp; rcases hp with rfl | rfl | rfl <;> simp) | (intro p hp; simp only [List.mem_cons, List.not_mem_nil, or_false] at hp; subst hp; simp)) (hs : swapsWith e (some (.Name x pos')) pos.line X.env = pure false := by rfl)
    (hf : X.fn x = true ∨ X.env.scope.names.lookup x = some .local := by first | exact .inl rfl | exact .inr rfl | assumption) : PS X (.Assign [.Name x pos'] e pos) (rdS X.K B W (sAsg m (gN i))) := PS.imp (ps_set hN hi hx he hs hf) fun D σ H ⟨F, τ, vs, ds, s, p⟩ =>
  ⟨F, τ, vs, ds, s, post_imp (post_s (σ := σ) p) (fun d τ1 q v F1 H1 s1 => q _ F1 H1 (s1.put' hio)) fun _ _ q => q⟩
structure Ec (K : PySem.W.Frag) (mg : Str → Option Value) (ca : Str → Addr) (x : Str) : Prop where
  g : mg x = some (.ref (ca x))
  k : PySem.W.keepIn K (.ref (ca x)) = true
  q : PySem.W.excIn K (ca x) [.type "ValueError", .type "Exception", .type "BaseException", .type "object"] "ValueError.__new__" = true
  b : PySem.W.subIn K (.ref (ca x)) (.type "BaseException") = some true
  t : PySem.W.typeIn K (.ref (ca x)) = some (.type "type")
def sRaise (x : Str) : MS := fun τ => .ex x τ
theorem s_raise {x m : Str} {j} {p p2 pos1 pos : Pos} (c : XOk X W) (E : Ec X.K X.mg B.ca x) (hg : Gl X x) (hdb : (x == ("__debug__" : Str)) = false := by decide) : PS X (.Raise (some (.Call (.Name x p) [.Constant (.str m) j p2] [] pos1)) none pos) (rdS X.K B W (sRaise x)) :=
  PS.imp (ps_raise c.calm c.tk (pmk_own PySem.F.excBase_ValueError E.q E.g E.k (raises_own E.b E.t) hg hdb)) fun D σ H ⟨F, τ, vs, ds, s, p⟩ => p σ F H s
def noEx (r : SR) : SR := match r with
  | .ex _ _ => .bad
  | r => r
def sTry (sub : Str → Option Bool) (b su : MS) : MS := fun τ => match b τ with
  | .ex c τ' => (match sub c with
    | some true => noEx (su τ')
    | some false => .ex c τ'
    | none => .bad)
  | .nx τ' => .nx τ'
  | .rt d τ' => .rt d τ'
  | .bk τ' => .bk τ'
  | .ct τ' => .ct τ'
  | .bad => .bad
theorem sqOf {K : PySem.W.Frag} {H : Hp} {a : Addr} {xs : List V} (h : H a = some (.lst xs)) : SqL K H a xs := .inl (.inl h)
structure ItOk (K : PySem.W.Frag) (B : Bx) (J : It) (items : List D) (tv : List V) (td : List D) : Prop where
  go : ∀ i F H σ τ, StT K B F H σ τ tv td → i < items.length → J.go i H
  st : ∀ F H σ τ, StT K B F H σ τ tv td → J.stop items.length H
  y : ∀ i d F H σ τ x H' us es, us.length = es.length → items[i]? = some d → StT K B F H σ τ (us ++ tv) (es ++ td) → J.yld i H x H' → ∃ F', StT K B F' H' σ τ (x :: (us ++ tv)) (d :: (es ++ td))
def rdI (K : PySem.W.Frag) (B : Bx) (W : WX) (m : MA) : TI := fun σ H R => ∃ F τ vs ds, StT K B F H σ τ vs ds ∧ post (fun items τ1 => ∀ J us es F' H', us.length = es.length → StT K B F' H' σ τ1 (us ++ vs) (es ++ ds) → ItOk K B J items (us ++ vs) (es ++ ds) → R J H') (exW K B W σ vs ds) (m τ)
theorem PI.imp {tg it : Expr} {t t' : TI} (h : PI X tg it t) (k : ∀ σ H R, t' σ H R → t σ H R) : PI X tg it t' := ⟨fun p s σ H R I q => h.run p s σ H R I (k _ _ _ q)⟩
def iL (m : ME) : MA := fun τ => (m τ).bind fun d τ1 => match freeze d with
  | .lst _ es => .ok es τ1
  | _ => .bad
theorem freeze_fz : ∀ d : D, isFz (freeze d) = true
  | .lst true _ => rfl | .lst false _ => rfl | .obj true _ _ _ => rfl | .obj false _ _ _ => rfl
  | .non => rfl | .bl _ => rfl | .int _ => rfl | .str _ => rfl | .ty _ => rfl | .tup _ => rfl | .cst _ => rfl | .val _ => rfl | .tpo _ => rfl | .dct true _ _ => rfl | .dct false _ _ => rfl
theorem StT.freeze1 {K : PySem.W.Frag} {F H : Hp} {σ : L2.St} {τ : Env} {vs : List V} {ds : List D} {v : V} {d : D} (s : StT K B F H σ τ (v :: vs) (d :: ds)) : ∃ F', StT K B F' H σ τ (v :: vs) (Bn.freeze d :: ds) := by
  obtain ⟨F2, sm, ⟨_, _, e2, r, _⟩, s2⟩ := StT.freeze (us := [v]) (es := [d]) s rfl
  cases e2
  exact ⟨F2, s2.push r⟩
theorem itOk_list {K : PySem.W.Frag} {a : Addr} {es : List D} {vs : List V} {ds : List D} : ItOk K B (Itl K a) es (.ref a :: vs) (.lst false es :: ds) := by
  have look : ∀ {F H σ τ}, StT K B F H σ τ (.ref a :: vs) (.lst false es :: ds) → ∃ us, SqL K H a us ∧ RepL K B.ca F es us := fun {F H σ τ} s => by
    obtain ⟨a', us, e, h1, h2⟩ := s.topF rfl
    cases e
    exact ⟨us, sqOf (s.same _ _ h1), h2⟩
  refine ⟨fun i F H σ τ s hi => ?_, fun F H σ τ s => ?_, fun i d F H σ τ x H' us' es' hl hd s y => ?_⟩
  · obtain ⟨us, h1, h2⟩ := look s
    exact ⟨us, us[i]'(by rw [h2.length]; exact hi), h1, by simp [h2.length, hi]⟩
  · obtain ⟨us, h1, h2⟩ := look s
    exact ⟨us, h1, by rw [h2.length]; exact Nat.le_refl _⟩
  · obtain ⟨rfl, y⟩ := y
    obtain ⟨us, h1, h2⟩ := look (s.pops hl)
    obtain ⟨v, e, r⟩ := h2.get hd
    rw [y us h1] at e; cases e
    exact ⟨F, s.push r⟩
def enumD : Nat → List D → List D
  | _, [] => []
  | i, d :: ds => .tup [.int (i : Nat), d] :: enumD (i + 1) ds
theorem enumD_len : ∀ (i : Nat) (ds : List D), (enumD i ds).length = ds.length
  | _, [] => rfl
  | i, d :: ds => by show (enumD (i + 1) ds).length + 1 = ds.length + 1; rw [enumD_len]
theorem enumD_get : ∀ (i j : Nat) (ds : List D), (enumD i ds)[j]? = ds[j]?.map fun d => .tup [.int ((i + j : Nat) : Int), d]
  | _, j, [] => by simp [enumD]
  | i, 0, d :: ds => by simp [enumD]
  | i, j + 1, d :: ds => by
    show (enumD (i + 1) ds)[j]? = _
    rw [enumD_get (i + 1) j ds]
    simp [Nat.add_assoc, Nat.add_comm 1 j]
theorem itOk_enum {K : PySem.W.Frag} {a : Addr} {es : List D} {vs : List V} {ds : List D} : ItOk K B (Ite K a) (enumD 0 es) (.ref a :: vs) (.lst false es :: ds) := by
  have look : ∀ {F H σ τ}, StT K B F H σ τ (.ref a :: vs) (.lst false es :: ds) → ∃ us, SqL K H a us ∧ RepL K B.ca F es us := fun {F H σ τ} s => by
    obtain ⟨a', us, e, h1, h2⟩ := s.topF rfl
    cases e
    exact ⟨us, sqOf (s.same _ _ h1), h2⟩
  refine ⟨fun i F H σ τ s hi => ?_, fun F H σ τ s => ?_, fun i d F H σ τ x H' us' es' hl hd s y => ?_⟩
  · obtain ⟨us, h1, h2⟩ := look s
    rw [enumD_len] at hi
    exact ⟨us, us[i]'(by rw [h2.length]; exact hi), h1, by simp [h2.length, hi]⟩
  · obtain ⟨us, h1, h2⟩ := look s
    exact ⟨us, h1, by rw [enumD_len, h2.length]; exact Nat.le_refl _⟩
  · obtain ⟨T, x', rfl, hT, rfl, y⟩ := y
    obtain ⟨us, h1, h2⟩ := look (s.pops hl)
    rw [enumD_get] at hd
    cases e : es[i]? with
    | none => rw [e] at hd; cases hd
    | some d' =>
      rw [e] at hd
      obtain ⟨v, ev, r⟩ := h2.get e
      rw [y us h1] at ev; cases ev
      have hd' : D.tup [.int ((0 + i : Nat) : Int), d'] = d := Option.some.inj hd
      subst hd'
      rw [Nat.zero_add]
      exact ⟨_, s.newTup hT ⟨.int (i : Nat), [x'], rfl, rfl, x', [], rfl, r, rfl⟩⟩
def zipD : List D → List D → List D
  | x :: xs, y :: ys => .tup [x, y] :: zipD xs ys
  | _, _ => []
theorem zipD_len : ∀ xs ys : List D, (zipD xs ys).length = min xs.length ys.length
  | [], ys => by simp [zipD]
  | x :: xs, [] => by simp [zipD]
  | x :: xs, y :: ys => by
    show (zipD xs ys).length + 1 = min (xs.length + 1) (ys.length + 1)
    rw [zipD_len]; omega
theorem zipD_get : ∀ (i : Nat) (xs ys : List D) (d : D), (zipD xs ys)[i]? = some d → ∃ x y, xs[i]? = some x ∧ ys[i]? = some y ∧ d = .tup [x, y]
  | _, [], ys, d, h => by simp [zipD] at h
  | _, x :: xs, [], d, h => by simp [zipD] at h
  | 0, x :: xs, y :: ys, d, h => ⟨x, y, rfl, rfl, (Option.some.inj h).symm⟩
  | i + 1, x :: xs, y :: ys, d, h => by simpa using zipD_get i xs ys d h
def rangeD (lo : Int) (n : Nat) : List D := (List.range n).map fun k => D.int (lo + (k : Nat))
theorem itOk_range {K : PySem.W.Frag} {lo : Int} {n : Nat} {vs : List V} {ds : List D} : ItOk K B (Itr lo n) (rangeD lo n) vs ds := by
  refine ⟨fun i F H σ τ s hi => ?_, fun F H σ τ s => ?_, fun i d F H σ τ x H' us' es' hl hd s y => ?_⟩
  · show i < n; simpa [rangeD] using hi
  · show n ≤ (rangeD lo n).length; simp [rangeD]
  · obtain ⟨rfl, rfl⟩ := y
    have hi : i < n := by simpa [rangeD] using (List.getElem?_eq_some_iff.mp hd).1
    have e : d = .int (lo + (i : Nat)) := by
      unfold rangeD at hd
      rw [List.getElem?_map, List.getElem?_range hi] at hd
      exact (Option.some.inj hd).symm
    subst e
    exact ⟨F, s.push (d := .int _) rfl⟩
def strD (s : Str) : List D := s.cps.toList.map fun c => D.str ⟨#[c]⟩
theorem i_list {tg l : Expr} {m : ME} (hl : PE X l (rdE X.K B W m)) : PI X tg l (rdI X.K B W (iL m)) := PI.imp (pi_list hl) fun σ H R ⟨F, τ, vs, ds, s, p⟩ => by
  refine ⟨F, τ, vs, ds, s, post_imp (post_bind p) (fun d τ1 q v F1 H1 s1 => ?_) fun _ _ q => q⟩
  obtain ⟨F2, s2⟩ := s1.freeze1
  have hz := freeze_fz d
  cases e : freeze d with
  | lst m es =>
    cases m with
    | true => rw [e] at hz; cases hz
    | false =>
      simp only [e] at q
      rw [e] at s2
      obtain ⟨a, us, ev, h1, h2⟩ := s2.topF rfl
      subst ev
      exact ⟨a, rfl, ⟨us, sqOf (s2.same _ _ h1)⟩, q (Itl X.K a) [.ref a] [.lst false es] F2 H1 rfl s2 itOk_list⟩
  | _ => simp only [e] at q; exact False.elim q
def iT (m : ME) : MA := fun τ => (m τ).bind fun d τ1 => match d with
  | .tup es => .ok es τ1
  | _ => .bad
def iS (m : ME) : MA := fun τ => (m τ).bind fun d τ1 => match d with
  | .str z => .ok (strD z) τ1
  | _ => .bad
def iR1 (m : MA) : MA := fun τ => (m τ).bind fun ds τ1 => match ds with
  | [.int j] => if -(2 ^ 62) ≤ j ∧ j < 2 ^ 62 then .ok (rangeD 0 j.toNat) τ1 else .bad
  | _ => .bad
def iR2 (m : MA) : MA := fun τ => (m τ).bind fun ds τ1 => match ds with
  | [.int i, .int j] => if -(2 ^ 62) ≤ i ∧ i < 2 ^ 62 ∧ -(2 ^ 62) ≤ j ∧ j < 2 ^ 62 then .ok (rangeD i (j - i).toNat) τ1 else .bad
  | _ => .bad
theorem i_range1 {tg a : Expr} {p pos : Pos} {m : MA} (hg : Gl X "range") (hm : X.mg "range" = none) (ha : PA X [a] (rdA X.K B W m)) (hs : starEach [a] X.env = [(false, eval a X.env)] := by rfl) : PI X tg (.Call (.Name "range" p) [a] [] pos) (rdI X.K B W (iR1 m)) := PI.imp (pi_range1 hg hm ha hs) fun σ H R ⟨F, τ, vs, ds, s, p⟩ => by
  refine ⟨F, τ, vs, ds, s, post_imp (post_bind p) (fun es τ1 q us F1 H1 hl s1 => ?_) fun _ _ q => q⟩
  have g := s1.pops hl
  match es, q, s1, hl with
  | [.int j], q, s1, hl =>
    match us, s1, hl with
    | [v], s1, _ =>
      cases (show v = .int j from s1.topF rfl)
      by_cases z : -(2 ^ 62) ≤ j ∧ j < 2 ^ 62
      · simp only [z, and_self, if_true] at q
        exact ⟨j, rfl, z.1, z.2, q (Itr 0 j.toNat) [] [] F1 H1 rfl g itOk_range⟩
      · simp only [z, if_false] at q; exact False.elim q
def iE (m : MA) : MA := fun τ => (m τ).bind fun ds τ1 => match freezeL ds with
  | [.lst _ es] => .ok (enumD 0 es) τ1
  | _ => .bad
def iV (m : MA) : MA := fun τ => (m τ).bind fun ds τ1 => match freezeL ds with
  | [.lst _ es] => .ok es.reverse τ1
  | _ => .bad
def iZ (m : MA) : MA := fun τ => (m τ).bind fun ds τ1 => match freezeL ds with
  | [.lst _ es, .lst _ fs] => .ok (zipD es fs) τ1
  | _ => .bad
theorem StT.pushL {K : PySem.W.Frag} {F H : Hp} {σ : L2.St} {τ : Env} {vs us : List V} {ds es : List D} (s : StT K B F H σ τ vs ds) (h : RepL K B.ca F es us) : StT K B F H σ τ (us ++ vs) (es ++ ds) := by
  obtain ⟨f1, f2, A, b, w, io⟩ := s
  have b2 := (h.os (H := H)).append b
  have e3 : (fun b => 0 + f2 b) = f2 := funext fun b => by omega
  rw [e3] at b2
  exact ⟨f1, f2, A, b2, w, io⟩
theorem i_enum {e : Expr} {p pos tpos : Pos} {elts : List Expr} {kk : Nat} {m : MA} (hg : Gl X "enumerate") (hm : X.mg "enumerate" = none) (ha : PA X [e] (rdA X.K B W m)) (hs : starEach [e] X.env = [(false, eval e X.env)] := by rfl) :
    PI X (.Tuple elts kk tpos) (.Call (.Name "enumerate" p) [e] [] pos) (rdI X.K B W (iE m)) := PI.imp (pi_enum hg hm ha hs) fun σ H R ⟨F, τ, vs, ds, s, p⟩ => by
  refine ⟨F, τ, vs, ds, s, post_imp (post_bind p) (fun es τ1 q us F1 H1 hl s1 => ?_) fun _ _ q => q⟩
  obtain ⟨F2, sm, rl, s2⟩ := s1.freeze hl
  match h : freezeL es, q, rl with
  | [.lst b xs], q, rl =>
    obtain ⟨v, r, rfl, r1, r2⟩ := rl
    cases (show r = [] from r2)
    cases b with
    | true => exact r1.elim
    | false =>
      have s3 := s2.push r1
      obtain ⟨a, ws, rfl, h1, h2⟩ := r1
      exact ⟨a, ws, rfl, sqOf (s2.same _ _ h1), q (Ite X.K a) [.ref a] [.lst false xs] F2 H1 rfl s3 itOk_enum⟩
end
end Bn
namespace Bn
open PySem PySem.Spec PyProof.Rows L2
def forL (g : D → Env → Option Env) (b : MS) : List D → Env → SR
  | [], τ => .nx τ
  | d :: r, τ => match g d τ with
    | none => .bad
    | some τ1 => match b τ1 with
      | .nx τ2 => forL g b r τ2
      | .ct τ2 => forL g b r τ2
      | .bk τ2 => .nx τ2
      | .rt d τ2 => .rt d τ2
      | .ex c τ2 => .ex c τ2
      | .bad => .bad
def sFor (m : MA) (g : D → Env → Option Env) (b : MS) : MS := fun τ => (m τ).s fun items τ1 => forL g b items τ1
def whileM (c : MT) (b : MS) : Nat → Env → SR
  | 0, _ => .bad
  | n + 1, τ => match c τ with
    | .ok true τ1 => (match b τ1 with
      | .nx τ2 => whileM c b n τ2
      | .ct τ2 => whileM c b n τ2
      | .bk τ2 => .nx τ2
      | .rt d τ2 => .rt d τ2
      | .ex e τ2 => .ex e τ2
      | .bad => .bad)
    | .ok false τ1 => .nx τ1
    | .ex e τ1 => .ex e τ1
    | .bad => .bad
def sWhile (fuel : Env → Nat) (c : MT) (b : MS) : MS := fun τ => whileM c b (fuel τ) τ
section
variable {X : Cx} {B : Bx} {W : WX}
theorem postS_pops {K : PySem.W.Frag} {us vs : List V} {es ds : List D} {D' : Ends} {r : SR} (hl : us.length = es.length) (h : postS K B W vs ds D' r) : postS K B W (us ++ vs) (es ++ ds) D' r := by
  cases r with
  | nx τ => exact fun σ F H s => h σ F H (s.pops hl)
  | rt d τ => exact fun v σ F H s => h v σ F H (StT.pops (us := us) (es := es) (by
      obtain ⟨f1, f2, A, ⟨v', r', g1, g2, e, b1, b2, q⟩, w, io⟩ := s
      cases e
      obtain ⟨g3, g4, c1, c2, q2⟩ := b2.split' hl
      exact ⟨f1, f2, A, c1.append (us := v :: vs) (es := d :: ds) (g := fun b => g1 b + g4 b) ⟨v, vs, g1, g4, rfl, b1, c2, fun _ => rfl⟩ |> fun z => by
        have e : (fun b => g3 b + (g1 b + g4 b)) = f2 := funext fun b => by rw [q, q2]; omega
        rw [e] at z; exact z, w, io⟩) hl)
  | bk τ => exact fun σ F H s => h σ F H (s.pops hl)
  | ct τ => exact fun σ F H s => h σ F H (s.pops hl)
  | ex c τ => exact fun σ F H s => h σ F H (s.pops hl)
  | bad => exact h
theorem for_core {J : It} {items : List D} {tv : List V} {td : List D} {g : D → Env → Option Env} {sl : List Nat} {b : MS} {K : PySem.W.Frag} {σ : L2.St} {H F : Hp} {τ : Env} {D' : Ends} (ok : ItOk K B J items tv td) (s : StT K B F H σ τ tv td) (p : postS K B W tv td D' (forL g b items τ)) :
    ∃ W' : Nat → Nat → L2.St → Hp → Prop, (∃ m, W' 0 m σ H) ∧ ∀ i m σ H, W' i m σ H → (J.stop i H ∧ D'.nx σ H) ∨ (J.go i H ∧ ∃ N : L2.St → Hp → Prop, (∀ σ' H', N σ' H' → ∃ m', m' < m ∧ W' (i + 1) m' σ' H') ∧
      ∀ x H', J.yld i H x H' → rdG K B sl g x σ H' fun σ2 H2 => rdS K B W b { D' with nx := N, ct := N, bk := D'.nx } σ2 H2) := by
  refine ⟨fun i m σ H => m = items.length - i ∧ i ≤ items.length ∧ ∃ F τ, StT K B F H σ τ tv td ∧ postS K B W tv td D' (forL g b (items.drop i) τ), ⟨_, rfl, Nat.zero_le _, F, τ, s, p⟩, ?_⟩
  rintro i m σ H ⟨rfl, hi, F, τ, s, p⟩
  by_cases h : i < items.length
  · refine .inr ⟨ok.go i F H σ τ s h, fun σ' H' => ∃ F τ, StT K B F H' σ' τ tv td ∧ postS K B W tv td D' (forL g b (items.drop (i + 1)) τ), fun σ' H' ⟨F', τ', s', p'⟩ => ⟨items.length - (i + 1), by omega, rfl, h, F', τ', s', p'⟩, fun x H' y => ?_⟩
    have e : items[i]? = some items[i] := by simp [h]
    obtain ⟨F', s'⟩ := ok.y i _ F H σ τ x H' [] [] rfl e s y
    rw [List.drop_eq_getElem_cons h] at p
    unfold forL at p
    cases eg : g items[i] τ with
    | none => rw [eg] at p; exact p.elim
    | some τ1 =>
      rw [eg] at p
      refine ⟨F', τ, tv, td, _, s', τ1, eg, fun σ2 F2 H2 s2 _ _ => ⟨F2, τ1, tv, td, s2, ?_⟩⟩
      cases eb : b τ1 with
      | nx τ2 => simp only [eb] at p; exact fun σ3 F3 H3 s3 => ⟨F3, τ2, s3, p⟩
      | ct τ2 => simp only [eb] at p; exact fun σ3 F3 H3 s3 => ⟨F3, τ2, s3, p⟩
      | bk τ2 => simp only [eb] at p; exact p
      | rt d τ2 => simp only [eb] at p; exact p
      | ex c τ2 => simp only [eb] at p; exact p
      | bad => simp only [eb] at p; exact p
  · have e : i = items.length := by omega
    subst e
    rw [List.drop_length] at p
    exact .inl ⟨ok.st F H σ τ s, p σ F H s⟩
theorem s_for {tg it : Expr} {body : List Stmt} {pos : Pos} {m : MA} {sl : List Nat} {g : D → Env → Option Env} {b : MS} (c : XOk X W) (hi : PI X tg it (rdI X.K B W m)) (hg : PG X tg (rdG X.K B sl g)) (hb : PSs X body (rdS X.K B W b))
    (hs : ∀ x, foldedSetIterable it X.env x = pure x := by intro _; rfl) : PS X (.For tg it body [] pos) (rdS X.K B W (sFor m g b)) := PS.imp (ps_for c.hp c.calm hi hg hb hs) fun D' σ H ⟨F, τ, vs, ds, s, p⟩ =>
  ⟨F, τ, vs, ds, s, post_imp (post_s (σ := σ) p) (fun items τ1 q J us es F' H' hl s' ok => for_core ok s' (postS_pops hl q)) fun _ _ q => q⟩
def wipeE (τ : Env) : List Nat → Env
  | [] => τ
  | v :: vs => (wipeE τ vs).set v none
def lcL (own : List Nat) (g : D → Env → Option Env) (t : MT) (m : ME) : List D → List D → Env → R (List D)
  | [], acc, τ => .ok acc τ
  | d :: r, acc, τ => match g d τ with
    | none => .bad
    | some τ1 => (t τ1).bind fun b τ2 => if b = true then (m τ2).bind fun e τ3 => if acc.length < 1000000 then lcL own g t m r (acc ++ [e]) (wipeE τ3 own) else .bad else lcL own g t m r acc (wipeE τ2 own)
def eLc (own : List Nat) (it : MA) (g : D → Env → Option Env) (t : MT) (m : ME) : ME := fun τ => (it τ).bind fun items τ1 => match lcL own g t m items [] (wipeE τ1 own) with
  | .ok acc τ2 => .ok (.lst true acc) τ2
  | _ => .bad
theorem Sl.reset {K : PySem.W.Frag} {ca : Str → Addr} {F H : Hp} : ∀ {τ : Env} {σ σ' : L2.St} {f : Ct}, Sl K ca F H τ σ f → σ'.length = σ.length → (∀ (j : Nat) (d : D), τ[j]? = some (some d) → σ'[j]? = σ[j]?) → Sl K ca F H τ σ' f
  | [], σ, σ', f, h, hl, k => by
    obtain ⟨rfl, h2⟩ := h
    exact ⟨List.eq_nil_of_length_eq_zero hl, h2⟩
  | none :: τ, _, σ', f, ⟨x, r, h1, h2⟩, hl, k => by
    subst h1
    cases σ' with
    | nil => cases hl
    | cons y r' => exact ⟨y, r', rfl, h2.reset (by simpa using hl) fun j d hj => by simpa using k (j + 1) d (by simpa using hj)⟩
  | some d :: τ, _, σ', f, ⟨v, r, f1, f2, h1, h2, h3, h4⟩, hl, k => by
    subst h1
    cases σ' with
    | nil => cases hl
    | cons y r' =>
      have e : some y = some (some v) := by simpa using k 0 d (by simp)
      cases e
      exact ⟨v, r', f1, f2, rfl, h2, h3.reset (by simpa using hl) fun j d hj => by simpa using k (j + 1) d (by simpa using hj), h4⟩
theorem StT.reset {K : PySem.W.Frag} {F H : Hp} {σ σ' : L2.St} {τ : Env} {vs : List V} {ds : List D} (s : StT K B F H σ τ vs ds) (hl : σ'.length = σ.length) (k : ∀ (j : Nat) (d : D), τ[j]? = some (some d) → σ'[j]? = σ[j]?) (io : IoOk B σ') : StT K B F H σ' τ vs ds := by
  obtain ⟨f1, f2, a, b, w, _⟩ := s
  exact ⟨f1, f2, a.reset hl k, b, w, io⟩
theorem StT.wipeE {K : PySem.W.Frag} {F H : Hp} {σ : L2.St} {τ : Env} {vs : List V} {ds : List D} (s : StT K B F H σ τ vs ds) : ∀ own : List Nat, StT K B F H σ (Bn.wipeE τ own) vs ds
  | [] => s
  | _ :: own => (s.wipeE own).forget
end
end Bn
namespace Bn
open PySem PySem.Spec PyProof.Rows L2
section
variable {X : Cx} {B : Bx} {W : WX}
theorem StT.under {K : PySem.W.Frag} {F H : Hp} {σ : L2.St} {τ : Env} {vs us : List V} {ds es : List D} {v : V} {d : D} (s : StT K B F H σ τ (v :: (us ++ vs)) (d :: (es ++ ds))) (hl : us.length = es.length) : StT K B F H σ τ (v :: vs) (d :: ds) := by
  obtain ⟨f1, f2, A, ⟨v', r', g1, g2, e, b1, b2, q⟩, w, io⟩ := s
  cases e
  obtain ⟨g3, g4, c1, c2, q2⟩ := b2.split' hl
  exact ⟨f1, fun b => g1 b + g4 b, A, ⟨v, vs, g1, g4, rfl, b1, c2, fun _ => rfl⟩, w.less fun b => by show f1 b + (g1 b + g4 b) ≤ f1 b + f2 b; rw [q, q2]; omega, io⟩
theorem PTs.imp {e : List Expr} {t t' : TT} (h : PTs X e t) (k : ∀ σ H Q, t' σ H Q → t σ H Q) : PTs X e t' := ⟨fun p s σ H Q I q => h.run p s σ H Q I (k _ _ _ q)⟩
def tTrue : MT := fun τ => .ok true τ
end
def callF (n N : Nat) (b : MS) : List D → CR := fun ds => if ds.length = n then (match b (ds.map some ++ List.replicate (N - n) none) with
  | .nx _ => .ok .non
  | .rt d _ => .ok d
  | .ex c _ => .ex c
  | _ => .bad) else .bad
theorem sl_start {K : PySem.W.Frag} {ca : Str → Addr} {F H : Hp} {k : Nat} : ∀ {ds : List D} {vs : List V}, RepL K ca F ds vs → Sl K ca F H (ds.map some ++ List.replicate k none) (vs.map some ++ List.replicate k none) (fun _ => 0)
  | [], vs, h => by
    cases (show vs = [] from h)
    show Sl K ca F H (List.replicate k none) (List.replicate k none) _
    induction k with
    | zero => exact ⟨rfl, fun _ => rfl⟩
    | succ k ih => exact ⟨none, _, rfl, ih⟩
  | d :: ds, _, ⟨v, r, h1, h2, h3⟩ => by
    subst h1
    exact ⟨v, _, _, _, rfl, h2.o, sl_start h3, fun _ => rfl⟩
section
variable {P : Program} {w : World} {K : PySem.W.Frag} {mg : Str → Option Value} {base : Heap} {ca : Str → Addr}
theorem fn_ok {x qual : Str} {st : Stmt} {f : Addr} {fd : FuncData} {N ps : List Str} {k : Nat} {b : MS} (F : Fun K x qual st f fd) (S : FnScope N ps (defScope st))
    (hb : ∀ (cdv : Value) (A : Around) (outer : List PySem.Env) (s : Shared) (H : Hp) (E : XK) (F0 R : Hp), Room k (A.deeper (envOfC qual (defScope st) s.heap.objs.size f cdv)) →
      XOk (cxOf (L2.CX P w) P w K mg base N qual (defScope st) f cdv A outer s H E) (fun cls d _ H => E cls d H) →
      PSs (cxOf (L2.CX P w) P w K mg base N qual (defScope st) f cdv A outer s H E) (defBody st) (rdS K ⟨ca, F0, R, []⟩ (fun cls d _ H => E cls d H) b)) :
    FnOk P w K mg base (L2.CX P w) (k + 1) f fd ps (spP K ca (callF ps.length N.length b)) := by
  refine F.okX S (fun vs H Q E h => ?_) (fun cdv A outer s H vs Q E hr h => ?_)
  · obtain ⟨F0, ds, _, rl, h⟩ := h
    rw [rl.length]
    by_cases e : ds.length = ps.length
    · exact e
    · unfold callF at h
      rw [if_neg e] at h
      exact h.elim
  · obtain ⟨F0, ds, sm, rl, h⟩ := h
    refine ⟨_, hb cdv A outer s H E F0 H hr ⟨takes_of rfl rfl rfl rfl, passes_of rfl, rfl⟩, ?_⟩
    have hl : ds.length = ps.length := by
      by_cases e : ds.length = ps.length
      · exact e
      · unfold callF at h
        rw [if_neg e] at h
        exact h.elim
    unfold callF at h
    rw [if_pos hl] at h
    have st0 : StT K ⟨ca, F0, H, []⟩ F0 H (L2.start N vs) (ds.map some ++ List.replicate (N.length - ps.length) none) [] [] := by
      refine ⟨fun _ => 0, fun _ => 0, ?_, ⟨rfl, fun _ => rfl⟩, ⟨fun _ => Nat.zero_le _, fun a q => absurd q (Nat.lt_irrefl _), fun a q => absurd q (Nat.lt_irrefl _), sm, Same.refl _, Same.refl _, fun a q => .inl q⟩, fun p hp => by cases hp⟩
      unfold L2.start
      rw [rl.length, hl]
      exact sl_start rl
    refine ⟨F0, _, [], [], st0, ?_⟩
    cases e : b (ds.map some ++ List.replicate (N.length - ps.length) none) with
    | nx τ =>
      rw [e] at h
      intro σ' F' H' s'
      obtain ⟨f1, f2, _, _, w', _⟩ := s'
      exact h .non F' H' (fun _ => 0) w'.s0 w'.sF w'.sR (Rep.o (d := .non) rfl) (fun _ => Nat.zero_le _) (fun a q => absurd q (Nat.lt_irrefl _)) w'.fr
    | rt d τ =>
      rw [e] at h
      intro v σ' F' H' s'
      obtain ⟨f1, f2, _, ⟨_, _, g1, g2, ee, hv, _, q⟩, w', _⟩ := s'
      cases ee
      have le : ∀ a, g1 a ≤ f1 a + f2 a := fun a => by rw [q]; omega
      exact h v F' H' g1 w'.s0 w'.sF w'.sR hv (fun a => Nat.le_trans (le a) (w'.nd a)) (fun a z => ⟨w'.dF a (Nat.lt_of_lt_of_le z (le a)), w'.dR a (Nat.lt_of_lt_of_le z (le a))⟩) w'.fr
    | ex c τ =>
      rw [e] at h
      intro σ' F' H' s'
      obtain ⟨f1, f2, _, _, w', _⟩ := s'
      exact h H' w'.sR
    | bk τ => rw [e] at h; exact h.elim
    | ct τ => rw [e] at h; exact h.elim
    | bad => rw [e] at h; exact h.elim
theorem fo_of {x qual : Str} {st : Stmt} {f : Addr} {fd : FuncData} {ps : List Str} {k : Nat} {g : List D → CR} (F : Fun K x qual st f fd) (hm : mg x = some (.ref f)) (hb : Binds K fd ps []) (h : FnOk P w K mg base (L2.CX P w) k f fd ps (spP K ca g)) : Fo P w K mg base ca k x g := ⟨f, fd, ps, hm, F.kp, hb, h⟩
end
end Bn
namespace Bn
open PySem PySem.Spec PyProof.Rows L2
section
variable {K : PySem.W.Frag}
def gI (k : Int → Int → D) : D → D → Option D
  | .int i, .int j => some (k i j)
  | _, _ => none
def gIC (C : Int → Int → Prop) [∀ i j, Decidable (C i j)] (k : Int → Int → D) : D → D → Option D
  | .int i, .int j => if C i j then some (k i j) else none
  | _, _ => none
theorem opS_I0 {f : Int → Int → V} {k : Int → Int → D} (h : ∀ ca F i j, Rep K ca F (k i j) (f i j)) : OpS K (rI0 f) (gI k) := by
  intro ca F H x y a b d f1 f2 Q sm hx hy e q
  cases a with
  | int i =>
    cases b with
    | int j =>
      cases (show some (k i j) = some d from e)
      exact ⟨i, j, hx.1, hy.1, q _ _ (h ca F i j).o⟩
    | _ => cases e
  | _ => cases e
theorem opS_IC {C : Int → Int → Prop} [∀ i j, Decidable (C i j)] {f : Int → Int → V} {k : Int → Int → D} (h : ∀ ca F i j, Rep K ca F (k i j) (f i j)) : OpS K (rI C f) (gIC C k) := by
  intro ca F H x y a b d f1 f2 Q sm hx hy e q
  cases a with
  | int i =>
    cases b with
    | int j =>
      by_cases c : C i j
      · have e' : (if C i j then some (k i j) else none) = some d := e
        rw [if_pos c] at e'
        cases e'
        exact ⟨i, j, hx.1, hy.1, c, q _ _ (h ca F i j).o⟩
      · have e' : (if C i j then some (k i j) else none) = some d := e
        rw [if_neg c] at e'; cases e'
    | _ => cases e
  | _ => cases e
def gAdd : D → D → Option D := gI fun i j => .int (i + j)
def gSub : D → D → Option D := gI fun i j => .int (i - j)
instance {i j : Int} : Decidable (CMulW i j) := by unfold CMulW; infer_instance
instance {i j : Int} : Decidable (CDivW i j) := by unfold CDivW; infer_instance
instance {i j : Int} : Decidable (CPow i j) := by unfold CPow; infer_instance
def gMul : D → D → Option D := gIC CMulW fun i j => .int (i * j)
def gDiv : D → D → Option D := gIC CDivW fun i j => .int (i / j)
def gMod : D → D → Option D := gIC (fun _ j => 0 < j) fun i j => .int (i % j)
def gPow : D → D → Option D := gIC CPow fun i j => .int (i ^ j.toNat)
def gLt : D → D → Option D := gI fun i j => .bl (decide (i < j))
def gLe : D → D → Option D := gI fun i j => .bl (decide (i ≤ j))
def gGt : D → D → Option D := gI fun i j => .bl (decide (j < i))
def gGe : D → D → Option D := gI fun i j => .bl (decide (j ≤ i))
theorem sAdd : OpS K (rI0 fun i j => .int (i + j)) gAdd := opS_I0 fun _ _ _ _ => rfl
theorem sSub : OpS K (rI0 fun i j => .int (i - j)) gSub := opS_I0 fun _ _ _ _ => rfl
theorem sMul : OpS K (rI CMulW fun i j => .int (i * j)) gMul := opS_IC fun _ _ _ _ => rfl
theorem sDiv : OpS K (rI CDivW fun i j => .int (i / j)) gDiv := opS_IC fun _ _ _ _ => rfl
theorem sMod : OpS K (rI (fun _ j => 0 < j) fun i j => .int (i % j)) gMod := opS_IC fun _ _ _ _ => rfl
theorem sPow : OpS K (rI CPow fun i j => .int (i ^ j.toNat)) gPow := opS_IC fun _ _ _ _ => rfl
theorem sLt : OpS K (rI0 fun i j => .bl (decide (i < j))) gLt := opS_I0 fun _ _ _ _ => rfl
theorem sGt : OpS K (rI0 fun i j => .bl (decide (j < i))) gGt := opS_I0 fun _ _ _ _ => rfl
theorem sGe : OpS K (rI0 fun i j => .bl (decide (j ≤ i))) gGe := opS_I0 fun _ _ _ _ => rfl
def gNeg : D → Option D
  | .int i => some (.int (-i))
  | _ => none
mutual
def toP : D → PyData
  | .bl b => .bool b
  | .int i => .int i
  | .str s => .str s
  | .tup xs => .tuple (toPs xs)
  | .lst _ xs => .list (toPs xs)
  | .cst xs => .list (toPs xs)
  | .non => .none
  | .ty _ => .none
  | .val _ => .none
  | .tpo xs => .tuple (toPs xs)
  | .dct _ _ _ => .none
  | .obj _ _ _ _ => .none
def toPs : List D → List PyData
  | [] => []
  | x :: xs => toP x :: toPs xs
end
mutual
def hasP : D → Bool
  | .tup xs => hasPs xs
  | .lst _ xs => hasPs xs
  | .cst xs => hasPs xs
  | .ty _ => false
  | .val _ => false
  | .tpo xs => hasPs xs
  | .dct _ _ _ => false
  | .obj _ _ _ _ => false
  | .bl _ => true | .int _ => true | .str _ => true | .non => true
def hasPs : List D → Bool
  | [] => true
  | x :: xs => hasP x && hasPs xs
end
section
variable {ca : Str → Addr} {F H : Hp}
mutual
theorem Rep.dp (sm : Same F H) : ∀ (d : D) (v : V), hasP d = true → Rep K ca F d v → Dp K H v (toP d)
  | .non, v, _, h => by cases (show v = .non from h); exact .non
  | .bl b, v, _, h => by cases (show v = .bl b from h); exact .bl b
  | .int b, v, _, h => by cases (show v = .int b from h); exact .int b
  | .str b, v, _, h => by cases (show v = .str b from h); exact .str b
  | .tup ds, v, z, h => by
    obtain ⟨a, vs, rfl, h1, h2⟩ := h
    exact .tup (sqT_same sm h1) (RepL.dp sm ds vs z h2)
  | .lst true _, _, _, h => h.elim
  | .lst false ds, v, z, h => by
    obtain ⟨a, vs, rfl, h1, h2⟩ := h
    exact .lst (sqOf (sm _ _ h1)) (RepL.dp sm ds vs z h2)
  | .cst ds, v, z, h => by
    obtain ⟨a, vs, rfl, h1, h2⟩ := h
    exact .lst (sm.seq h1) (RepL.dp sm ds vs z h2)
  | .tpo _, _, _, h => h.elim
theorem RepL.dp (sm : Same F H) : ∀ (ds : List D) (vs : List V), hasPs ds = true → RepL K ca F ds vs → DpAll K H vs (toPs ds)
  | [], vs, _, h => by cases (show vs = [] from h); exact .nil
  | d :: ds, _, z, ⟨v, r, h1, h2, h3⟩ => by
    subst h1
    have z' : (hasP d && hasPs ds) = true := z
    rw [Bool.and_eq_true] at z'
    exact .cons (Rep.dp sm d v z'.1 h2) (RepL.dp sm ds r z'.2 h3)
end
mutual
theorem RepO.dp (sm : Same F H) : ∀ (d : D) (v : V) (f : Ct), hasP d = true → RepO K ca F H d v f → Dp K H v (toP d)
  | .lst true ds, v, f, z, h => by
    obtain ⟨a, vs, g, rfl, h1, h2, _⟩ := h
    exact .lst (sqOf h1) (RepOs.dp sm ds vs g z h2)
  | .lst false ds, v, f, z, h => Rep.dp sm _ _ z h.1
  | .non, v, f, z, h => Rep.dp sm _ _ z h.1
  | .bl _, v, f, z, h => Rep.dp sm _ _ z h.1
  | .int _, v, f, z, h => Rep.dp sm _ _ z h.1
  | .str _, v, f, z, h => Rep.dp sm _ _ z h.1
  | .tup _, v, f, z, h => Rep.dp sm _ _ z h.1
  | .cst _, v, f, z, h => Rep.dp sm _ _ z h.1
  | .tpo ds, v, f, z, h => by
    obtain ⟨a, vs, rfl, h1, h2⟩ := h
    exact .tup (sqT_same sm h1) (RepOs.dp sm ds vs f z h2)
theorem RepOs.dp (sm : Same F H) : ∀ (ds : List D) (vs : List V) (f : Ct), hasPs ds = true → RepOs K ca F H ds vs f → DpAll K H vs (toPs ds)
  | [], vs, _, _, h => by cases (show vs = [] from h.1); exact .nil
  | d :: ds, _, f, z, ⟨v, r, f1, f2, h1, h2, h3, _⟩ => by
    subst h1
    have z' : (hasP d && hasPs ds) = true := z
    rw [Bool.and_eq_true] at z'
    exact .cons (RepO.dp sm d v f1 z'.1 h2) (RepOs.dp sm ds r f2 z'.2 h3)
end
end
def okP (d : D) : Bool := hasP d && SeqAt.shaped (toP d)
def eqP (a b : D) : Bool := PyData.eqv (toP a) (toP b)
def gEq (a b : D) : Option D := if okP a = true ∧ okP b = true then some (.bl (eqP a b)) else none
def gNe (a b : D) : Option D := if okP a = true ∧ okP b = true then some (.bl (!eqP a b)) else none
theorem sEq : OpS K (rEqD K) gEq := by
  intro ca F H x y a b d f1 f2 Q sm hx hy e q
  unfold gEq at e
  by_cases c : okP a = true ∧ okP b = true
  · rw [if_pos c] at e
    cases e
    have c1 := c.1
    have c2 := c.2
    unfold okP at c1 c2
    rw [Bool.and_eq_true] at c1 c2
    exact ⟨_, _, RepO.dp sm a x f1 c1.1 hx, RepO.dp sm b y f2 c2.1 hy, c1.2, c2.2, q (.bl _) _ (Rep.o (d := .bl _) rfl)⟩
  · rw [if_neg c] at e; cases e
theorem sNe : OpS K (rNeD K) gNe := by
  intro ca F H x y a b d f1 f2 Q sm hx hy e q
  unfold gNe at e
  by_cases c : okP a = true ∧ okP b = true
  · rw [if_pos c] at e
    cases e
    have c1 := c.1
    have c2 := c.2
    unfold okP at c1 c2
    rw [Bool.and_eq_true] at c1 c2
    exact ⟨_, _, RepO.dp sm a x f1 c1.1 hx, RepO.dp sm b y f2 c2.1 hy, c1.2, c2.2, q (.bl _) _ (Rep.o (d := .bl _) rfl)⟩
  · rw [if_neg c] at e; cases e
def isNonD : D → Bool
  | .non => true
  | .val v => decide (v = .non)
  | _ => false
def gIsN (a b : D) : Option D := match b with
  | .non => some (.bl (isNonD a))
  | _ => none
def gNotN (a b : D) : Option D := match b with
  | .non => some (.bl (!isNonD a))
  | _ => none
def itemsD : D → Option (List D)
  | .lst _ xs => some xs
  | .cst xs => some xs
  | .tup xs => some xs
  | .tpo xs => some xs
  | _ => none
def gIx (a b : D) : Option D := match b with
  | .int i => (match a with
    | .str z => if z.length ≤ 1000000 then (atI z.cps.toList i).map fun c => .str ⟨#[c]⟩ else none
    | .lst _ xs => atI xs i
    | .cst xs => atI xs i
    | .tup xs => atI xs i
    | .tpo xs => atI xs i
    | _ => none)
  | _ => none
theorem atI_get {α β : Type} {xs : List α} {ys : List β} {i : Int} {y : β} (hl : xs.length = ys.length) (h : atI ys i = some y) : ∃ (j : Nat) (x : α), ys[j]? = some y ∧ xs[j]? = some x ∧ atI xs i = some x := by
  unfold atI at h ⊢
  obtain ⟨j, e, h⟩ := bind_some h
  have hj : j < ys.length := (List.getElem?_eq_some_iff.mp h).1
  obtain ⟨x, hx⟩ : ∃ x, xs[j]? = some x := ⟨xs[j]'(by omega), by simp [hl, hj]⟩
  refine ⟨j, x, h, hx, ?_⟩
  rw [hl, e]
  exact hx
theorem seq_of {ca : Str → Addr} {F H : Hp} {a : D} {x : V} {f : Ct} {xs : List D} (sm : Same F H) (h : RepO K ca F H a x f) (e : itemsD a = some xs) : ∃ p vs g, x = .ref p ∧ (SqL K H p vs ∨ SqT K H p vs) ∧ RepOs K ca F H xs vs g := by
  cases a with
  | tup ds =>
    cases (show some ds = some xs from e)
    obtain ⟨⟨a, vs, rfl, h1, h2⟩, _⟩ := h
    exact ⟨a, vs, _, rfl, .inr (sqT_same sm h1), h2.os⟩
  | tpo ds =>
    cases (show some ds = some xs from e)
    obtain ⟨a, vs, rfl, h1, h2⟩ := h
    exact ⟨a, vs, _, rfl, .inr (sqT_same sm h1), h2⟩
  | cst ds =>
    cases (show some ds = some xs from e)
    obtain ⟨⟨a, vs, rfl, h1, h2⟩, _⟩ := h
    exact ⟨a, vs, _, rfl, .inl (sm.seq h1), h2.os⟩
  | lst m ds =>
    cases (show some ds = some xs from e)
    cases m with
    | true =>
      obtain ⟨a, vs, g, rfl, h1, h2, _⟩ := h
      exact ⟨a, vs, g, rfl, .inl (sqOf h1), h2⟩
    | false =>
      obtain ⟨⟨a, vs, rfl, h1, h2⟩, _⟩ := h
      exact ⟨a, vs, _, rfl, .inl (sqOf (sm _ _ h1)), h2.os⟩
  | _ => cases e
theorem gIx_seq {a d : D} {i : Int} (e : gIx a (.int i) = some d) : (∃ xs, itemsD a = some xs ∧ atI xs i = some d) ∨ ∃ z c, a = .str z ∧ z.length ≤ 1000000 ∧ atI z.cps.toList i = some c ∧ d = .str ⟨#[c]⟩ := by
  cases a with
  | tup xs => exact .inl ⟨xs, rfl, e⟩
  | cst xs => exact .inl ⟨xs, rfl, e⟩
  | lst m xs => exact .inl ⟨xs, rfl, e⟩
  | tpo xs => exact .inl ⟨xs, rfl, e⟩
  | str z =>
    have e' : (if z.length ≤ 1000000 then (atI z.cps.toList i).map fun c => D.str ⟨#[c]⟩ else none) = some d := e
    by_cases c : z.length ≤ 1000000
    · rw [if_pos c] at e'
      cases e2 : atI z.cps.toList i with
      | none => rw [e2] at e'; cases e'
      | some c' =>
        rw [e2] at e'
        exact .inr ⟨z, c', rfl, c, e2, (Option.some.inj e').symm⟩
    · rw [if_neg c] at e'; cases e'
  | _ => cases e
theorem sIx : OpS K (rIx K) gIx := by
  intro ca F H x y a b d f1 f2 Q sm hx hy e q
  cases b with
  | int i =>
    rcases gIx_seq e with ⟨xs, e1, e2⟩ | ⟨z, c, rfl, hz, e2, rfl⟩
    · obtain ⟨p, vs, g, rfl, h1, h2⟩ := seq_of sm hx e1
      obtain ⟨j, v, g1, g2, g3⟩ := atI_get h2.length e2
      obtain ⟨v', g', k1, k2⟩ := h2.get g1
      rw [g2] at k1; cases k1
      rcases h1 with h1 | h1
      · exact .inl ⟨p, vs, i, v, rfl, hy.1, h1, g3, q v _ k2⟩
      · exact .inr (.inl ⟨p, vs, i, v, rfl, hy.1, h1, g3, q v _ k2⟩)
    · exact .inr (.inr ⟨z, i, c, hx.1, hy.1, le_sizeLine hz, e2, q (.str ⟨#[c]⟩) _ (Rep.o (d := .str _) rfl)⟩)
  | _ => cases e
def gLen : List D → Option D
  | [.str z] => if z.length ≤ 1000000 then some (.int (z.length : Nat)) else none
  | [a] => (itemsD a).map fun xs => .int (xs.length : Nat)
  | _ => none
theorem repOs1 {ca : Str → Addr} {F H : Hp} {a : D} {xs : List V} {f : Ct} (h : RepOs K ca F H [a] xs f) : ∃ x g, xs = [x] ∧ RepO K ca F H a x g := by
  obtain ⟨x, r, f1, f2, rfl, h1, ⟨rfl, _⟩, _⟩ := h
  exact ⟨x, f1, rfl, h1⟩
theorem repOs2 {ca : Str → Addr} {F H : Hp} {a b : D} {xs : List V} {f : Ct} (h : RepOs K ca F H [a, b] xs f) : ∃ x y g g', xs = [x, y] ∧ RepO K ca F H a x g ∧ RepO K ca F H b y g' := by
  obtain ⟨x, r, f1, f2, rfl, h1, h2, _⟩ := h
  obtain ⟨y, g', rfl, h3⟩ := repOs1 h2
  exact ⟨x, y, f1, g', rfl, h1, h3⟩
theorem sLen : CallS K (fun xs H Q => ∃ x n, xs = [x] ∧ LenV K x H n ∧ Q (.int n) H) gLen := by
  intro ca F H xs as d f1 Q sm hx e q
  unfold gLen at e
  split at e
  · rename_i z
    obtain ⟨x, g, rfl, h⟩ := repOs1 hx
    cases (show x = .str z from h.1)
    by_cases c : z.length ≤ 1000000
    · rw [if_pos c] at e; cases e
      exact ⟨_, z.length, rfl, ⟨le_sizeLine c, rfl⟩, q (.int _) _ (Rep.o (d := .int _) rfl)⟩
    · rw [if_neg c] at e; cases e
  · rename_i a _
    obtain ⟨x, g, rfl, h⟩ := repOs1 hx
    cases ei : itemsD a with
    | none => rw [ei] at e; cases e
    | some ys =>
      rw [ei] at e
      cases (show some (D.int (ys.length : Nat)) = some d from e)
      obtain ⟨p, vs, g, rfl, h1, h2⟩ := seq_of sm h ei
      refine ⟨_, ys.length, rfl, ?_, q (.int _) _ (Rep.o (d := .int _) rfl)⟩
      rcases h1 with h1 | h1
      · exact .inl ⟨vs, h1, h2.length.symm⟩
      · exact .inr ⟨vs, h1, h2.length.symm⟩
  · cases e
def gAbs : List D → Option D
  | [.int i] => some (.int (if i < 0 then -i else i))
  | _ => none
def gMin2 : List D → Option D
  | [.int i, .int j] => some (.int (if j < i then j else i))
  | _ => none
def gMax2 : List D → Option D
  | [.int i, .int j] => some (.int (if j > i then j else i))
  | _ => none
def intsOf : List D → Option (List Int)
  | [] => some []
  | .int i :: r => (intsOf r).map (i :: ·)
  | _ => none
def minI : Int → List Int → Int
  | m, [] => m
  | m, x :: xs => minI (if x < m then x else m) xs
def maxI : Int → List Int → Int
  | m, [] => m
  | m, x :: xs => maxI (if m < x then x else m) xs
def lstD : D → Option (List D)
  | .lst _ xs => some xs
  | .cst xs => some xs
  | _ => none
theorem lst_of {ca : Str → Addr} {F H : Hp} {a : D} {x : V} {f : Ct} {xs : List D} (sm : Same F H) (h : RepO K ca F H a x f) (e : lstD a = some xs) : ∃ p vs g, x = .ref p ∧ SqL K H p vs ∧ RepOs K ca F H xs vs g := by
  cases a with
  | cst ds =>
    cases (show some ds = some xs from e)
    obtain ⟨⟨a, vs, rfl, h1, h2⟩, _⟩ := h
    exact ⟨a, vs, _, rfl, sm.seq h1, h2.os⟩
  | lst m ds =>
    cases (show some ds = some xs from e)
    cases m with
    | true =>
      obtain ⟨a, vs, g, rfl, h1, h2, _⟩ := h
      exact ⟨a, vs, g, rfl, sqOf h1, h2⟩
    | false =>
      obtain ⟨⟨a, vs, rfl, h1, h2⟩, _⟩ := h
      exact ⟨a, vs, _, rfl, sqOf (sm _ _ h1), h2.os⟩
  | _ => cases e
def gMinL : List D → Option D
  | [a] => match (lstD a).bind intsOf with
    | some (m :: r) => some (.int (minI m r))
    | _ => none
  | _ => none
def gMaxL : List D → Option D
  | [a] => match (lstD a).bind intsOf with
    | some (m :: r) => some (.int (maxI m r))
    | _ => none
  | _ => none
def boolsOf : List D → Option (List Bool)
  | [] => some []
  | .bl i :: r => (boolsOf r).map (i :: ·)
  | _ => none
def gAll : List D → Option D
  | [a] => match (lstD a).bind boolsOf with
    | some ns => some (.bl (ns.all id))
    | _ => none
  | _ => none
def gAny : List D → Option D
  | [a] => match (lstD a).bind boolsOf with
    | some ns => some (.bl (ns.any id))
    | _ => none
  | _ => none
def tyOfD : D → Option String
  | .non => none | .bl _ => some "bool" | .int _ => some "int" | .str _ => some "str"
  | .tup _ => some "tuple" | .lst _ _ => some "list" | .cst _ => some "list" | .ty _ => none | .obj _ _ _ _ => none | .val _ => none | .tpo _ => some "tuple" | .dct _ _ _ => none
def gIsi : List D → Option D
  | [a, .ty u] => match tyOfD a with
    | some t => if t ∈ ["bool", "int", "str", "tuple", "list"] ∧ u ∈ ["bool", "int", "str", "tuple", "list"] then some (.bl (decide (t = u) || (decide (t = "bool") && decide (u = "int")))) else none
    | none => none
  | _ => none
theorem kitOne_isi {K : PySem.W.Frag} {t u : String} (h : t ∈ ["bool", "int", "str", "tuple", "list"]) (k : u ∈ ["bool", "int", "str", "tuple", "list"]) : PySem.W.kitOne K (.type t) (.type u) = some (decide (t = u) || (decide (t = "bool") && decide (u = "int"))) := by
  simp only [List.mem_cons, List.not_mem_nil, or_false] at h k
  rcases h with rfl | rfl | rfl | rfl | rfl <;> rcases k with rfl | rfl | rfl | rfl | rfl <;> exact kit_ty (by decide +kernel)
theorem ty_of {ca : Str → Addr} {F H : Hp} {a : D} {x : V} {f : Ct} {t : String} (sm : Same F H) (h : RepO K ca F H a x f) (e : tyOfD a = some t) : TyX K H x (.type t) := by
  have L : ∀ {p vs}, SqL K H p vs → TyX K H (.ref p) (.type "list") := fun {p vs} s => by
    rcases s with (s | ⟨o, s⟩) | ⟨o, its, n, k1, k2, _⟩
    · exact .base (.lst s)
    · exact .base (.frz s)
    · exact .kList k1 k2
  have T : ∀ {p vs}, SqT K H p vs → TyX K H (.ref p) (.type "tuple") := fun {p vs} s => by
    rcases s with (s | ⟨o, s⟩) | ⟨o, its, n, k1, k2, _⟩
    · exact .base (.tup s)
    · exact .fTuple s
    · exact .kTuple k1 k2
  cases a with
  | bl b => cases (show x = .bl b from h.1); cases (show some "bool" = some t from e); exact .base (.bl b)
  | int b => cases (show x = .int b from h.1); cases (show some "int" = some t from e); exact .base (.int b)
  | str b => cases (show x = .str b from h.1); cases (show some "str" = some t from e); exact .base (.str b)
  | tup ds =>
    cases (show some "tuple" = some t from e)
    obtain ⟨⟨a, vs, rfl, h1, h2⟩, _⟩ := h
    exact T (sqT_same sm h1)
  | cst ds =>
    cases (show some "list" = some t from e)
    obtain ⟨p, vs, g, rfl, h1, h2⟩ := lst_of sm h rfl
    exact L h1
  | lst m ds =>
    cases (show some "list" = some t from e)
    obtain ⟨p, vs, g, rfl, h1, h2⟩ := lst_of sm h rfl
    exact L h1
  | tpo ds =>
    cases (show some "tuple" = some t from e)
    obtain ⟨a, vs, rfl, h1, h2⟩ := h
    exact T (sqT_same sm h1)
  | _ => cases e
theorem sIsi : CallS K (rIsi K) gIsi := by
  intro ca F H xs as d f1 Q sm hx e q
  unfold gIsi at e
  split at e
  · rename_i a u
    obtain ⟨x, y, g, g', rfl, h, h'⟩ := repOs2 hx
    cases (show y = .ty u from h'.1)
    split at e
    · rename_i t et
      by_cases c : t ∈ ["bool", "int", "str", "tuple", "list"] ∧ u ∈ ["bool", "int", "str", "tuple", "list"]
      · rw [if_pos c] at e
        cases e
        exact ⟨x, .ty u, _, _, _, rfl, .ty u, ty_of sm h et, kitOne_isi c.1 c.2, q (.bl _) _ (Rep.o (d := .bl _) rfl)⟩
      · rw [if_neg c] at e; cases e
    · cases e
  · cases e
def flatD : D → Bool
  | .non => true | .bl _ => true | .int _ => true | .str _ => true | _ => false
def toV : D → V
  | .non => .non | .bl b => .bl b | .int i => .int i | .str s => .str s | _ => .non
theorem flat_of {ca : Str → Addr} {F H : Hp} {a : D} {x : V} {f : Ct} (h : RepO K ca F H a x f) (e : flatD a = true) : x = toV a ∧ flatV x = true := by
  cases a with
  | non => cases (show x = .non from h.1); exact ⟨rfl, rfl⟩
  | bl b => cases (show x = .bl b from h.1); exact ⟨rfl, rfl⟩
  | int b => cases (show x = .int b from h.1); exact ⟨rfl, rfl⟩
  | str b => cases (show x = .str b from h.1); exact ⟨rfl, rfl⟩
  | _ => cases e
theorem flats_of {ca : Str → Addr} {F H : Hp} : ∀ {ds : List D} {vs : List V} {f : Ct}, RepOs K ca F H ds vs f → ds.all flatD = true → vs = ds.map toV ∧ vs.all flatV = true
  | [], vs, f, h, e => by cases (show vs = [] from h.1); exact ⟨rfl, rfl⟩
  | d :: ds, vs, f, ⟨v, r, f1, f2, h1, h2, h3, _⟩, e => by
    rw [List.all_cons, Bool.and_eq_true] at e
    obtain ⟨k1, k2⟩ := flat_of h2 e.1
    obtain ⟨k3, k4⟩ := flats_of h3 e.2
    subst h1
    refine ⟨by rw [List.map_cons, ← k1, ← k3], ?_⟩
    rw [List.all_cons, k2, k4]; rfl
def gIn (neg : Bool) (a b : D) : Option D := match itemsD b with
  | some xs => if flatD a = true ∧ xs.all flatD = true then some (.bl (if neg then !inV (toV a) (xs.map toV) else inV (toV a) (xs.map toV))) else none
  | none => none
theorem sIn {neg : Bool} : OpS K (rIn K neg) (gIn neg) := by
  intro ca F H x y a b d f1 f2 Q sm hx hy e q
  unfold gIn at e
  cases ei : itemsD b with
  | none => rw [ei] at e; cases e
  | some xs =>
    rw [ei] at e
    by_cases c : flatD a = true ∧ xs.all flatD = true
    · simp only [c, and_self, if_true] at e
      cases e
      obtain ⟨p, vs, g, rfl, h1, h2⟩ := seq_of sm hy ei
      obtain ⟨k1, k2⟩ := flat_of hx c.1
      obtain ⟨k3, k4⟩ := flats_of h2 c.2
      refine ⟨p, vs, rfl, h1, k2, k4, ?_⟩
      rw [k1, k3]
      exact q (.bl _) _ (Rep.o (d := .bl _) rfl)
    · simp only [c, if_false] at e; cases e
end
end Bn
namespace Bn
open PySem PySem.Spec PyProof.Rows L2
section
variable {X : Cx} {B : Bx} {W : WX}
def sApp (i : Nat) (m : ME) : MS := fun τ => match τ.getD i none with
  | some (.lst true _) => (m τ).s fun d τ1 => (match τ1.getD i none with
    | some (.lst true es) => if es.length < 1000000 then .nx (τ1.set i (some (.lst true (es ++ [d])))) else .bad
    | _ => .bad)
  | _ => .bad
theorem s_app {i : Nat} {o e : Expr} {apos cpos pos : Pos} {m : ME} (ho : PE X o (tVar i)) (he : PE X e (rdE X.K B W m))
    (hbase : attributeBase o "append" X.env (eval o X.env) = eval o X.env := by rfl)
    (hfew : ((backTo cpos (starEach [e] X.env)).all (fun x => !x.1) && (backToKw cpos (keywordEach [] X.env)).all (fun x => x.1.isSome)
      && decide ([e].length + ([] : List Keyword).length + (if ([] : List Keyword).isEmpty then 0 else 1) < 30)) = true := by rfl)
    (hline : (apos.endLine == cpos.line) = true := by rfl) (hs : starEach [e] X.env = (false, eval e X.env) :: starEach [] X.env := by rfl) (hplain : (backTo cpos (starEach [] X.env)).any (·.1) = false := by rfl)
    (hsw : swapsWith (.Call (.Attribute o "append" apos) [e] [] cpos) none pos.line X.env = pure false := by rfl) : PS X (.Expr (.Call (.Attribute o "append" apos) [e] [] cpos) pos) (rdS X.K B W (sApp i m)) :=
  PS.imp (ps_expr (pe_bm PySem.F.plainAttrs_list PySem.F.slot_list_append PySem.F.type_list_append mt_append ho (pa_cons he pa_nil hs) hbase hfew hline hs hplain) hsw) fun D σ H ⟨F, τ, vs, ds, s, p⟩ => by
    unfold sApp at p
    split at p
    · rename_i es0 e0
      obtain ⟨v, f, h1, a, us, g, rfl, h2, _⟩ := s.get (getD_some e0)
      refine ⟨.ref a, h1, .inl ⟨rfl, us, sqOf h2⟩, F, τ, vs, ds, s, post_imp (post_s (σ := σ) p) (fun d τ1 q y F1 H1 s1 => ?_) fun _ _ q => q⟩
      split at q
      · rename_i es e1
        have e1' := getD_some e1
        obtain ⟨v, k1, s2⟩ := s1.take e1'
        rw [h1] at k1
        cases k1
        by_cases hl : es.length < 1000000
        · rw [if_pos hl] at q
          obtain ⟨f, a', us', g, ea, hx, hg, _⟩ := s2.top
          cases ea
          refine ⟨a, us', y, rfl, rfl, hx, by rw [hg.length, sizeLine_eq]; omega, ?_⟩
          have s3 := s2.change (us := [y]) (ds := [d]) (ys := us' ++ [y]) (es2 := es ++ [d]) rfl hx fun g1 g2 r1 r2 => ⟨_, r1.append r2, fun b => Nat.le_refl _⟩
          have s4 := s3.putBack (i := i) (by rw [List.length_set]; exact (List.getElem?_eq_some_iff.mp e1').1) h1
          rw [List.set_set] at s4
          exact q σ F1 _ s4
        · rw [if_neg hl] at q; exact q.elim
      · exact q.elim
    · exact p.elim
def rdP (K : PySem.W.Frag) (B : Bx) (W : WX) (p : Env → R (Option Int)) : TO := fun σ H Q => ∃ F τ vs ds, StT K B F H σ τ vs ds ∧ post (fun o τ' => ∀ F' H', StT K B F' H' σ τ' vs ds → Q o H') (exW K B W σ vs ds) (p τ)
theorem PO.imp {e : Option Expr} {t t' : TO} (h : PO X e t) (k : ∀ σ H Q, t' σ H Q → t σ H Q) : PO X e t' := ⟨fun p s σ H Q I q => h.run p s σ H Q I (k _ _ _ q)⟩
def pNone : Env → R (Option Int) := fun τ => .ok none τ
def pSome (m : ME) : Env → R (Option Int) := fun τ => (m τ).bind fun d τ1 => match d with
  | .int i => .ok (some i) τ1
  | _ => .bad
theorem pe_some {e : Expr} {m : ME} (h : PE X e (rdE X.K B W m)) : PO X (some e) (rdP X.K B W (pSome m)) := PO.imp (po_some h) fun σ H Q ⟨F, τ, vs, ds, s, k⟩ => by
  refine ⟨F, τ, vs, ds, s, post_imp (post_bind k) (fun d τ1 q v F1 H1 s1 => ?_) fun _ _ q => q⟩
  cases d with
  | int i => exact ⟨i, s1.topF rfl, q F1 H1 s1.pop⟩
  | _ => exact False.elim q
def cutL {α : Type} (xs : List α) (lo hi : Option Int) : List α := (xs.drop (HT.sIx xs.length 0 lo)).take (HT.sIx xs.length xs.length hi - HT.sIx xs.length 0 lo)
theorem RepL.drop {K : PySem.W.Frag} {ca : Str → Addr} {F : Hp} : ∀ {ds : List D} {vs : List V} (n : Nat), RepL K ca F ds vs → RepL K ca F (ds.drop n) (vs.drop n)
  | [], vs, n, h => by cases (show vs = [] from h); simp; exact rfl
  | d :: ds, vs, 0, h => h
  | d :: ds, _, n + 1, ⟨v, r, h1, h2, h3⟩ => by subst h1; exact h3.drop n
theorem RepL.take {K : PySem.W.Frag} {ca : Str → Addr} {F : Hp} : ∀ {ds : List D} {vs : List V} (n : Nat), RepL K ca F ds vs → RepL K ca F (ds.take n) (vs.take n)
  | [], vs, n, h => by cases (show vs = [] from h); simp; exact rfl
  | d :: ds, vs, 0, h => rfl
  | d :: ds, _, n + 1, ⟨v, r, h1, h2, h3⟩ => by subst h1; exact ⟨v, r.take n, rfl, h2, h3.take n⟩
theorem RepL.cut {K : PySem.W.Frag} {ca : Str → Addr} {F : Hp} {ds : List D} {vs : List V} (h : RepL K ca F ds vs) (lo hi : Option Int) : RepL K ca F (cutL ds lo hi) (cutV vs lo hi) := by
  unfold cutL cutV
  rw [h.length]
  exact (h.drop _).take _
def slR (d : D) (p r : Env → R (Option Int)) (f : D → Option Int → Option Int → Option D) (τ : Env) : R D := (p τ).bind fun lo τ1 => (r τ1).bind fun hi τ2 => match f d lo hi with
  | some x => .ok x τ2
  | none => .bad
def cutLd (d : D) (lo hi : Option Int) : Option D := match d with
  | .lst _ es => some (.lst true (cutL es lo hi))
  | .cst es => some (.lst true (cutL es lo hi))
  | _ => none
def eSlice (f : D → Option Int → Option Int → Option D) (m : ME) (p r : Env → R (Option Int)) : ME := fun τ => (m τ).bind fun d τ1 => slR (freeze d) p r f τ1
theorem e_slice {e : Expr} {lo hi : Option Expr} {p2 pos : Pos} {m : ME} {p r : Env → R (Option Int)} {rd : V → Option Int → Option Int → Hp → VK → Prop} {f : D → Option Int → Option Int → Option D} (hr : SlR X rd)
    (hf : ∀ {F H σ τ v vs d ds l h x Q}, isFz d = true → f d l h = some x → StT X.K B F H σ τ (v :: vs) (d :: ds) → (∀ u F' H', StT X.K B F' H' σ τ (u :: vs) (x :: ds) → Q u H') → rd v l h H Q)
    (he : PE X e (rdE X.K B W m)) (hl : PO X lo (rdP X.K B W p)) (hu : PO X hi (rdP X.K B W r)) : PE X (.Subscript e (.Slice lo hi none p2) pos) (rdE X.K B W (eSlice f m p r)) :=
  PE.imp (pe_slice hr he hl hu) fun σ H Q ⟨F, τ, vs, ds, s, k⟩ => by
    refine ⟨F, τ, vs, ds, s, post_imp (post_bind k) (fun d τ1 q v F1 H1 s1 => ?_) fun _ _ q => q⟩
    obtain ⟨F2, s2⟩ := s1.freeze1
    refine ⟨F2, τ1, _, _, s2, post_imp (post_bind q) (fun l τ2 q F3 H3 s3 => ?_) fun c τ2 q F3 H3 s3 => q F3 H3 s3.pop⟩
    refine ⟨F3, τ2, _, _, s3, post_imp (post_bind q) (fun h τ3 q F4 H4 s4 => ?_) fun c τ2 q F3 H3 s3 => q F3 H3 s3.pop⟩
    cases ef : f (freeze d) l h with
    | none => rw [ef] at q; exact False.elim q
    | some x =>
      rw [ef] at q
      exact hf (freeze_fz d) ef s4 q
theorem e_sliceL {e : Expr} {lo hi : Option Expr} {p2 pos : Pos} {m : ME} {p r : Env → R (Option Int)} (he : PE X e (rdE X.K B W m)) (hl : PO X lo (rdP X.K B W p)) (hu : PO X hi (rdP X.K B W r)) : PE X (.Subscript e (.Slice lo hi none p2) pos) (rdE X.K B W (eSlice cutLd m p r)) :=
  e_slice sl_list (fun {F H σ τ v vs d ds l h x Q} z e s k => by
    cases d with
    | lst b es =>
      cases b with
      | true => cases z
      | false =>
        cases (show some (D.lst true (cutL es l h)) = some x from e)
        obtain ⟨a, us, ev, h1, h2⟩ := s.topF rfl
        subst ev
        exact ⟨a, us, rfl, sqOf (s.same _ _ h1), fun np hnp => k _ _ _ (((s.pop).pushL (h2.cut l h)).newLst (h2.cut l h).length hnp)⟩
    | cst es =>
      cases (show some (D.lst true (cutL es l h)) = some x from e)
      obtain ⟨a, us, ev, h1, h2⟩ := s.topF rfl
      subst ev
      exact ⟨a, us, rfl, s.same.seq h1, fun np hnp => k _ _ _ (((s.pop).pushL (h2.cut l h)).newLst (h2.cut l h).length hnp)⟩
    | _ => cases e) he hl hu
structure Kc (K : PySem.W.Frag) (mg : Str → Option Value) (x : Str) (d : D) : Prop where
  ex : ∃ v u, mg x = some u ∧ RelV v u ∧ ∀ ca F, Rep K ca F d v
theorem z_k {x : Str} {d : D} {pos : Pos} (k : Kc X.K X.mg x d) (hg : Gl X x) (hd : (x == ("__debug__" : Str)) = false := by decide) : PE X (.Name x pos) (rdZ X.K B (zC d)) := by
  obtain ⟨v, u, h1, h2, h3⟩ := k.ex
  exact z_c (pe_glob hg h1 h2 hd) fun F => h3 _ F
theorem kc_int {K : PySem.W.Frag} {mg : Str → Option Value} {x : Str} {s : Int} {t : Tok} (h : mg x = some (.int s t)) : Kc K mg x (.int s) := ⟨.int s, _, h, ⟨t, rfl⟩, fun _ _ => rfl⟩
end
end Bn
namespace Bn
open PySem PySem.Spec PyProof.Rows L2
abbrev Bx.withE (B : Bx) (i : Nat) (a : Addr) : Bx := { B with io := (i, .ref a) :: B.io }
theorem ioE {B : Bx} {i j : Nat} {a : Addr} (h : i ≠ j) (k : ioFree B j := by intro p hp; cases hp) : ioFree (B.withE i a) j := fun p hp => by
  rcases List.mem_cons.mp hp with rfl | hp
  · exact h
  · exact k p hp
def endAs (i : Nat) (r : SR) : SR := match r with
  | .nx τ => .nx (τ.set i none)
  | .rt d τ => .rt d τ
  | .bk τ => .bk (τ.set i none)
  | .ct τ => .ct (τ.set i none)
  | _ => .bad
def tryAs (i : Nat) (o : Option Bool) (c : Str) (τ : Env) (su : Str → MS) : SR := match o with
  | some true => if i < τ.length then endAs i (su c (τ.set i none)) else .bad
  | some false => .ex c τ
  | none => .bad
def sTryAs (i : Nat) (sub : Str → Option Bool) (b : MS) (su : Str → MS) : MS := fun τ => match b τ with
  | .ex c τ' => tryAs i (sub c) c τ' su
  | .nx τ' => .nx τ'
  | .rt d τ' => .rt d τ'
  | .bk τ' => .bk τ'
  | .ct τ' => .ct τ'
  | .bad => .bad
section
variable {X : Cx} {B : Bx} {W : WX}
theorem StT.withE {K : PySem.W.Frag} {F H : Hp} {σ : L2.St} {τ : Env} {vs : List V} {ds : List D} {i : Nat} {a : Addr} (s : StT K B F H σ τ vs ds) (hi : i < τ.length) (hf : ioFree B i) : StT K (B.withE i a) F H (σ.set i (some (.ref a))) (τ.set i none) vs ds := by
  have s1 := s.forget (i := i)
  have io : IoOk B σ := by obtain ⟨_, _, _, _, _, io⟩ := s; exact io
  have hl : σ.length = τ.length := by obtain ⟨_, _, A, _⟩ := s; exact A.length
  have s2 : StT K B F H (σ.set i (some (.ref a))) (τ.set i none) vs ds := s1.reset (by simp) (fun j d h => by
    have : j ≠ i := fun e => by
      subst e
      rw [List.getElem?_set_self hi] at h; cases h
    rw [List.getElem?_set_ne this.symm]) fun p hp => by rw [List.getElem?_set_ne (fun e => hf p hp e.symm)]; exact io p hp
  obtain ⟨f1, f2, A, b, w, io2⟩ := s2
  refine ⟨f1, f2, A, b, ⟨w.nd, w.dF, w.dR, w.sF, w.sR, w.s0, w.fr⟩, fun p hp => ?_⟩
  rcases List.mem_cons.mp hp with rfl | hp
  · rw [List.getElem?_set_self (by omega)]
  · exact io2 p hp
theorem StT.outE {K : PySem.W.Frag} {F H : Hp} {σ : L2.St} {τ : Env} {vs : List V} {ds : List D} {i : Nat} {a : Addr} (s : StT K (B.withE i a) F H σ τ vs ds) : StT K B F H σ τ vs ds := by
  obtain ⟨f1, f2, A, b, w, io2⟩ := s
  exact ⟨f1, f2, A, b, ⟨w.nd, w.dF, w.dR, w.sF, w.sR, w.s0, w.fr⟩, fun p hp => io2 p (List.mem_cons_of_mem _ hp)⟩
theorem StT.clearE {K : PySem.W.Frag} {F H : Hp} {σ : L2.St} {τ : Env} {vs : List V} {ds : List D} {i : Nat} (s : StT K B F H σ τ vs ds) (hf : ioFree B i) : StT K B F H (σ.set i none) (τ.set i none) vs ds := by
  have s1 := s.forget (i := i)
  have io : IoOk B σ := by obtain ⟨_, _, _, _, _, io⟩ := s; exact io
  have hl : σ.length = τ.length := by obtain ⟨_, _, A, _⟩ := s; exact A.length
  exact s1.reset (by simp) (fun j d h => by
    have : j ≠ i := fun e => by
      subst e
      by_cases hj : j < τ.length
      · rw [List.getElem?_set_self hj] at h; cases h
      · rw [List.getElem?_eq_none (by simp; omega)] at h; cases h
    rw [List.getElem?_set_ne this.symm]) fun p hp => by rw [List.getElem?_set_ne (fun e => hf p hp e.symm)]; exact io p hp
theorem s_tryAs {i : Nat} {x n : Str} {cv : Value} {body suite : List Stmt} {b₀ : Stmt} {np pos pos' : Pos} {b : MS} {su : Str → MS} (c : XOk X W) (hN : X.N.Nodup) (hi : X.N[i]? = some n) (hln : X.env.kindOf n = some .local) (sub : Str → Option Bool) (hn : Names X x cv) (hsub : ∀ y t, sub y = some t → PySem.W.exmOne X.K (.ref (B.ca y)) cv = some t) (hs : X.stack = X.env :: X.outer) (hf : X.env.frame = some X.env.locals)
    (hb : ∀ (W' : WX) (pn : List (Addr × Obj)) (xe : Value → Shared → Prop), XOk (X.tr pn xe) W' → PSs (X.tr pn xe) body (rdS X.K B W' b))
    (hsu : ∀ (a : Addr) (oe : Obj) (y : Str) (pn : List (Addr × Obj)), Zc (.ref (B.ca y)) none oe → (∃ vs, oe.data = .fields vs) → PSs (X.suite a ((a, oe) :: pn)) (b₀ :: suite) (rdS X.K (B.withE i a) W0 (su y))) (hio : ioFree B i := by intro p hp; cases hp) :
    PS X (.Try body [.ExceptHandler (some (.Name x np)) (some n) (b₀ :: suite) pos'] [] [] pos) (rdS X.K B W (sTryAs i sub b su)) :=
  PS.imp (ps_try_as (tb := fun W' => rdS X.K B W' b) (ts := fun a cls d => fun D σ H => ∃ y, cls = .ref (B.ca y) ∧ d = none ∧ rdS X.K (B.withE i a) W0 (su y) D σ H) hs hf hN hi hln hn c.tk (fun W' pn xe tk hp => hb W' pn xe ⟨tk, hp, c.calm⟩)
    fun a oe cls d pn hz hv => ⟨fun pins s σ H D I h => by
      obtain ⟨y, rfl, rfl, h⟩ := h
      exact (hsu a oe y pn hz hv).run pins s σ H D I h⟩) fun D σ H ⟨F, τ, vs, ds, s, p⟩ => by
    refine ⟨F, τ, vs, ds, s, ?_⟩
    unfold sTryAs at p
    cases e : b τ with
    | ex y τ' =>
      rw [e] at p
      intro σ' F' H' s'
      cases es : sub y with
      | none => simp only [es, tryAs] at p; exact p.elim
      | some t =>
        simp only [es] at p
        refine ⟨t, hsub y t es, fun ht a ha => ?_, fun ht => ?_⟩
        · subst ht
          by_cases hl : i < τ'.length
          · simp only [tryAs, hl, if_true] at p
            refine ⟨y, rfl, rfl, F', _, vs, ds, s'.withE hl hio, ?_⟩
            cases e2 : su y (τ'.set i none) with
            | nx τ2 => rw [e2] at p; exact fun σ2 F2 H2 s2 => p _ F2 H2 (s2.outE.clearE hio)
            | rt d τ2 => rw [e2] at p; exact fun v σ2 F2 H2 s2 => p v σ2 F2 H2 s2.outE
            | bk τ2 => rw [e2] at p; exact fun σ2 F2 H2 s2 => p _ F2 H2 (s2.outE.clearE hio)
            | ct τ2 => rw [e2] at p; exact fun σ2 F2 H2 s2 => p _ F2 H2 (s2.outE.clearE hio)
            | ex c2 τ2 => rw [e2] at p; exact p.elim
            | bad => rw [e2] at p; exact p.elim
          · simp only [tryAs, hl, if_false] at p; exact p.elim
        · subst ht; exact p σ' F' H' s'
    | _ => rw [e] at p; exact p
def eIs (o : Option Bool) : ME := fun τ => match o with
  | some b => .ok (.bl b) τ
  | none => .bad
theorem e_isE {i : Nat} {a : Addr} {oe : Obj} {pn : List (Addr × Obj)} {y : Str} {n A : Str} {vA : V} {cvA : Value} {o : Option Bool} {p p1 p2 pos : Pos} (hz : Zc (.ref (B.ca y)) none oe) (hv : ∃ vs, oe.data = .fields vs)
    (he : PE (X.suite a ((a, oe) :: pn)) (.Name n p1) (tVar i)) (hA : PE (X.suite a ((a, oe) :: pn)) (.Name A p2) (tC vA)) (hcv : ∀ u, RelV vA u → u = cvA) (hC : ∀ t, o = some t → ExcC X.K (B.ca y) ∧ PySem.W.kitOne X.K (.ref (B.ca y)) cvA = some t)
    (hg : Gl (X.suite a ((a, oe) :: pn)) "isinstance") (hm : X.mg "isinstance" = none)
    (hs1 : starEach [.Name n p1, .Name A p2] (X.suite a ((a, oe) :: pn)).env = (false, eval (.Name n p1) (X.suite a ((a, oe) :: pn)).env) :: starEach [.Name A p2] (X.suite a ((a, oe) :: pn)).env := by rfl)
    (hs2 : starEach [.Name A p2] (X.suite a ((a, oe) :: pn)).env = (false, eval (.Name A p2) (X.suite a ((a, oe) :: pn)).env) :: starEach [] (X.suite a ((a, oe) :: pn)).env := by rfl)
    (hpl : (backTo pos (starEach [.Name A p2] (X.suite a ((a, oe) :: pn)).env)).any (·.1) = false := by rfl) :
    PE (X.suite a ((a, oe) :: pn)) (.Call (.Name "isinstance" p) [.Name n p1, .Name A p2] [] pos) (rdE X.K (B.withE i a) W0 (eIs o)) := by
  cases o with
  | none => exact ⟨fun _ _ _ _ _ _ ⟨F, τ, vs, ds, s, h⟩ => False.elim h⟩
  | some t =>
    obtain ⟨C, hk⟩ := hC t rfl
    refine PE.imp (pe_callB (call_isE C hz hv) hg hm (by decide +kernel) (pa_cons he (pa_cons hA pa_nil hs2) hs1) (by decide) (by decide) hs1 hpl) fun σ H Q ⟨F, τ, vs, ds, s, h⟩ => ?_
    have io : IoOk (B.withE i a) σ := by obtain ⟨_, _, _, _, _, io⟩ := s; exact io
    exact ⟨.ref a, io (i, .ref a) List.mem_cons_self, vA, cvA, t, rfl, hcv, hk, h (.bl t) F H (s.push (d := .bl t) rfl)⟩
end
theorem kit_same {K : PySem.W.Frag} {a : Addr} : PySem.W.kitOne K (.ref a) (.ref a) = some true := by
  unfold PySem.W.kitOne
  rw [if_pos (by simp)]
theorem kit_ref {K : PySem.W.Frag} {a x : Addr} {b : Bool} (h1 : PySem.W.hasDictIn K x = true) (ht : PySem.W.typeIn K (.ref x) = some (.type "type")) (h4 : PySem.W.subIn K (.ref a) (.ref x) = some b) (hb : b = true ∨ (a == x) = false) : PySem.W.kitOne K (.ref a) (.ref x) = some b := by
  obtain ⟨cd, hc, _⟩ := PySem.W.any_some h1
  have e2 : ((PySem.W.clsIn K x).isSome && PySem.W.typeIn K (.ref x) == some (.type "type")) = true := by rw [hc, ht] <;> rfl
  unfold PySem.W.kitOne
  by_cases e : a = x
  · subst e
    rw [if_pos (by simp)]
    rcases hb with rfl | hb
    · rfl
    · simp at hb
  · rw [if_neg (by simp; exact e)]
    show (if ((PySem.W.clsIn K x).isSome && PySem.W.typeIn K (.ref x) == some (.type "type")) = true then PySem.W.subIn K (.ref a) (.ref x) else none) = some b
    rw [if_pos e2]
    exact h4
end Bn
namespace Bn
open PySem PySem.Spec PyProof.Rows L2
def eLstOf (m : MA) : ME := fun τ => (m τ).bind fun ds τ1 => match freezeL ds with
  | [.lst _ es] => .ok (.lst true es) τ1
  | [.tup es] => .ok (.lst true es) τ1
  | _ => .bad
theorem e_lstOf {X : Cx} {B : Bx} {W : WX} {x : Str} {p pos : Pos} {e : Expr} {m : MA} (hg : Gl X x) (hm : X.mg x = none) (hv : bootBuiltins x = some (.type "list")) (ha : PA X [e] (rdA X.K B W m)) (hn : x ≠ "__name__" := by decide) (hdb : (x == ("__debug__" : Str)) = false := by decide)
    (he : starEach [e] X.env = (false, eval e X.env) :: starEach [] X.env := by rfl) (hpl : (backTo pos (starEach [] X.env)).any (·.1) = false := by rfl) : PE X (.Call (.Name x p) [e] [] pos) (rdE X.K B W (eLstOf m)) := PE.imp (pe_callTy call_list_of hg hm hv ha hn hdb he hpl) fun σ H Q ⟨F, τ, vs, ds, s, p⟩ => by
  refine ⟨F, τ, vs, ds, s, post_imp (post_bind p) (fun es τ1 q us F1 H1 hl s1 => ?_) fun _ _ q => q⟩
  obtain ⟨F2, sm, rl, s2⟩ := s1.freeze hl
  match h : freezeL es, q, rl with
  | [.lst b xs], q, rl =>
    obtain ⟨v, r, rfl, r1, r2⟩ := rl
    cases (show r = [] from r2)
    cases b with
    | true => exact r1.elim
    | false =>
      obtain ⟨a, ws, rfl, h1, h2⟩ := r1
      exact ⟨a, ws, rfl, .inl (sqOf (s2.same _ _ h1)), fun l hl => q _ _ _ ((s2.pushL h2).newLst h2.length hl)⟩
  | [.tup xs], q, rl =>
    obtain ⟨v, r, rfl, r1, r2⟩ := rl
    cases (show r = [] from r2)
    obtain ⟨a, ws, rfl, h1, h2⟩ := r1
    exact ⟨a, ws, rfl, .inr (sqT_same s2.same h1), fun l hl => q _ _ _ ((s2.pushL h2).newLst h2.length hl)⟩
end Bn
namespace Bn
open PySem PySem.Spec PyProof.Rows L2
theorem upd_upd {H : Hp} {a : Addr} {x y : HO} : upd (upd H a x) a y = upd H a y := by
  funext b
  by_cases h : b = a
  · subst h; rw [upd_same, upd_same]
  · rw [upd_ne h, upd_ne h, upd_ne h]
def rdIn (K : PySem.W.Frag) (C : Addr) : List (Str × Nat) → TS
  | [] => fun D σ H => D.nx σ H
  | (f, i) :: r => fun D σ H => ∃ a dx fs y, σ[0]? = some (some (V.ref a)) ∧ σ[i]? = some (some y) ∧ H a = some (.ins C dx fs) ∧ NoAttr K C f ∧ fs.length < 1000 ∧ rdIn K C r D σ (upd H a (.ins C dx (putF f y fs)))
section
variable {X : Cx} {C : Addr}
end
theorem putF_new (f : Str) (v : V) : ∀ fs : List (Str × V), f ∉ fs.map (·.1) → putF f v fs = fs ++ [(f, v)]
  | [], _ => rfl
  | (g, x) :: r, h => by
    have h1 : ¬ g = f := fun e => h (by rw [List.map_cons, e]; exact List.mem_cons_self)
    have h2 : f ∉ r.map (·.1) := fun e => h (by rw [List.map_cons]; exact List.mem_cons_of_mem _ e)
    show (if g = f then (g, v) :: r else (g, x) :: putF f v r) = _
    rw [if_neg h1, putF_new f v r h2]
    rfl
theorem in_run {K : PySem.W.Frag} {C : Addr} {D : Ends} {σ : L2.St} {a dx : Addr} (h0 : σ[0]? = some (some (V.ref a))) : ∀ (ns : List Str) (ws : List V) (k : Nat) (fs : List (Str × V)) (H : Hp), ws.length = ns.length → (∀ i w, ws[i]? = some w → σ[k + i]? = some (some w)) → (∀ n ∈ ns, NoAttr K C n) → (fs.map (·.1) ++ ns).Nodup →
    fs.length + ns.length < 1000 → H a = some (.ins C dx fs) → D.nx σ (upd H a (.ins C dx (fs ++ ns.zip ws))) → rdIn K C (ns.zip (List.range' k ns.length)) D σ H
  | [], ws, k, fs, H, hl, hv, hn, nd, sz, hH, q => by
    cases ws with
    | nil =>
      show D.nx σ H
      have e : upd H a (.ins C dx (fs ++ [])) = H := by
        funext b
        by_cases h : b = a
        · subst h; rw [upd_same, List.append_nil]; exact hH.symm
        · rw [upd_ne h]
      rw [← e]; exact q
    | cons _ _ => simp at hl
  | n :: ns, [], k, fs, H, hl, _, _, _, _, _, _ => by simp at hl
  | n :: ns, w :: ws, k, fs, H, hl, hv, hn, nd, sz, hH, q => by
    have nf : n ∉ fs.map (·.1) := fun h => by
      have := (List.nodup_append.mp nd).2.2 n h n List.mem_cons_self
      exact this rfl
    have e := putF_new n w fs nf
    refine ⟨a, dx, fs, w, h0, by simpa using hv 0 w rfl, hH, hn n List.mem_cons_self, by simp at sz; omega, ?_⟩
    rw [e]
    refine in_run h0 ns ws (k + 1) (fs ++ [(n, w)]) _ (by simpa using hl) (fun i y hy => ?_) (fun m hm => hn m (List.mem_cons_of_mem _ hm)) ?_ (by simp at sz ⊢; omega) upd_same ?_
    · have := hv (i + 1) y (by simpa using hy)
      rw [show k + 1 + i = k + (i + 1) by omega]; exact this
    · rw [List.map_append]
      simpa using nd
    · rw [upd_upd]
      simpa using q
def spI (ca : Str → Addr) (c : Str) (ns : List Str) : Sp := fun vs H Q _ => ∃ a dx ws, vs = .ref a :: ws ∧ ws.length = ns.length ∧ H a = some (.ins (ca c) dx []) ∧ Q .non (upd H a (.ins (ca c) dx (ns.zip ws)))
section
variable {P : Program} {w : World} {K : PySem.W.Frag} {mg : Str → Option Value} {base : Heap} {ca : Str → Addr}
theorem init_ok {x qual : Str} {st : Stmt} {f : Addr} {fd : FuncData} {ps : List Str} {c : Str} {ns : List Str} (F : Fun K x qual st f fd) (S : FnScope ps ps (defScope st)) (hps : ps.length = ns.length + 1) (nd : ns.Nodup) (hn : ∀ n ∈ ns, NoAttr K (ca c) n) (hl : ns.length < 1000)
    (hb : ∀ (cdv : Value) (A : Around) (outer : List PySem.Env) (s : Shared) (H : Hp) (E : XK), PSs (cxOf (L2.CX P w) P w K mg base ps qual (defScope st) f cdv A outer s H E) (defBody st) (rdIn K (ca c) (ns.zip (List.range' 1 ns.length)))) :
    FnOk P w K mg base (L2.CX P w) 1 f fd ps (spI ca c ns) := by
  refine F.okX S (fun vs H Q E h => ?_) (fun cdv A outer s H vs Q E hr h => ?_)
  · obtain ⟨a, dx, ws, rfl, h1, _⟩ := h
    rw [List.length_cons, h1, hps]
  · obtain ⟨a, dx, ws, rfl, h1, h2, q⟩ := h
    refine ⟨_, hb cdv A outer s H E, ?_⟩
    have hlen : ps.length - (V.ref a :: ws).length = 0 := by rw [List.length_cons, hps, h1]; omega
    have e0 : L2.start ps (V.ref a :: ws) = some (V.ref a) :: ws.map some := by
      unfold L2.start
      rw [hlen]; simp
    rw [e0]
    refine in_run (dx := dx) rfl ns ws 1 [] H h1 (fun i y hy => ?_) hn (by simpa using nd) (by simpa using hl) h2 ?_
    · rw [show 1 + i = i + 1 by omega, List.getElem?_cons_succ, List.getElem?_map, hy]; rfl
    · rw [List.nil_append]; exact q
structure MkO (P : Program) (w : World) (K : PySem.W.Frag) (mg : Str → Option Value) (base : Heap) (ca : Str → Addr) (x : Str) (ns : List Str) : Prop where
  ex : ∃ f fd ps, Mk K (ca x) f ∧ mg x = some (.ref (ca x)) ∧ Binds K fd ps [] ∧ FnOk P w K mg base (L2.CX P w) 1 f fd ps (spI ca x ns)
structure MFo (P : Program) (w : World) (K : PySem.W.Frag) (mg : Str → Option Value) (base : Heap) (ca : Str → Addr) (j : Nat) (c m : Str) (g : List D → CR) : Prop where
  ex : ∃ k f fd ps, k ≤ j ∧ Meth K (ca c) m f ∧ Binds K fd ps [] ∧ FnOk P w K mg base (L2.CX P w) k f fd ps (spP K ca g)
  cl : Cls K (ca c)
theorem MFo.mono {i j : Nat} {c m : Str} {g : List D → CR} (h : MFo P w K mg base ca i c m g) (k : i ≤ j) : MFo P w K mg base ca j c m g := by
  obtain ⟨⟨k', f, fd, ps, h1, h2⟩, cl⟩ := h
  exact ⟨⟨k', f, fd, ps, Nat.le_trans h1 k, h2⟩, cl⟩
def MAll (P : Program) (w : World) (K : PySem.W.Frag) (mg : Str → Option Value) (base : Heap) (ca : Str → Addr) (j : Nat) (m : Str) : List (Str × (List D → CR)) → Prop
  | [] => True
  | p :: r => MFo P w K mg base ca j p.1 m p.2 ∧ MAll P w K mg base ca j m r
theorem MAll.get {j : Nat} {m : Str} : ∀ {As : List (Str × (List D → CR))} {c : Str} {g : List D → CR}, MAll P w K mg base ca j m As → As.lookup c = some g → MFo P w K mg base ca j c m g
  | [], _, _, _, e => by cases e
  | (c', g') :: r, c, g, ⟨h1, h2⟩, e => by
    rw [List.lookup_cons] at e
    by_cases q : c = c'
    · subst q
      simp at e; subst e; exact h1
    · have q' : (c == c') = false := by simpa using q
      rw [q'] at e
      exact h2.get e
end
def eMake (c : Str) (ns : List Str) (m : MA) : ME := fun τ => (m τ).bind fun ds τ1 => if ds.length = ns.length then .ok (.obj false c ns (freezeL ds)) τ1 else .bad
section
variable {X : Cx} {B : Bx} {W : WX}
def lookD (f : Str) : List Str → List D → Option D
  | n :: ns, x :: xs => if f = n then some x else lookD f ns xs
  | _, _ => none
def gFld (c f : Str) : D → Option D
  | .obj _ c' ns xs => if c' = c then lookD f ns xs else none
  | _ => none
theorem look_rep {K : PySem.W.Frag} {ca : Str → Addr} {F : Hp} {f : Str} {d : D} : ∀ {ns : List Str} {xs : List D} {vs : List V}, RepL K ca F xs vs → lookD f ns xs = some d → ∃ v, (ns.zip vs).lookup f = some v ∧ Rep K ca F d v
  | [], _, _, _, e => by cases e
  | _ :: _, [], _, _, e => by cases e
  | n :: ns, x :: xs, _, ⟨v, r, rfl, h1, h2⟩, e => by
    have e : (if f = n then some x else lookD f ns xs) = some d := e
    rw [List.zip_cons_cons, List.lookup_cons]
    by_cases q : f = n
    · rw [if_pos q] at e
      cases e
      have q' : (f == n) = true := by simpa using q
      rw [q']
      exact ⟨v, rfl, h1⟩
    · rw [if_neg q] at e
      have q' : (f == n) = false := by simpa using q
      rw [q']
      exact look_rep h2 e
theorem look_repO {K : PySem.W.Frag} {ca : Str → Addr} {F H : Hp} {f : Str} {d : D} : ∀ {ns : List Str} {xs : List D} {vs : List V} {g : Ct}, RepOs K ca F H xs vs g → lookD f ns xs = some d → ∃ v g', (ns.zip vs).lookup f = some v ∧ RepO K ca F H d v g'
  | [], _, _, _, _, e => by cases e
  | _ :: _, [], _, _, _, e => by cases e
  | n :: ns, x :: xs, _, _, ⟨v, r, f1, f2, rfl, h1, h2, _⟩, e => by
    have e : (if f = n then some x else lookD f ns xs) = some d := e
    rw [List.zip_cons_cons, List.lookup_cons]
    by_cases q : f = n
    · rw [if_pos q] at e
      cases e
      have q' : (f == n) = true := by simpa using q
      rw [q']
      exact ⟨v, f1, rfl, h1⟩
    · rw [if_neg q] at e
      have q' : (f == n) = false := by simpa using q
      rw [q']
      exact look_repO h2 e
theorem z_fld {e : Expr} {c f : Str} {pos : Pos} {m : MZ} (cl : Cls X.K (B.ca c)) (na : NoAttr X.K (B.ca c) f) (h : PE X e (rdZ X.K B m)) (hb : attributeBase e f X.env (eval e X.env) = eval e X.env := by rfl) : PE X (.Attribute e f pos) (rdZ X.K B (z1 (gFld c f) m)) := PE.imp (pe_fld h hb) fun σ H Q h => by
  obtain ⟨F, τ, vs, ds, s, d, e, k⟩ := h
  obtain ⟨a, ea, e3⟩ := bind_some e
  refine ⟨F, τ, vs, ds, s, a, ea, fun x f1 hx => ?_⟩
  cases a with
  | obj mm c' ns xs =>
    replace e3 : (if c' = c then lookD f ns xs else none) = some d := e3
    by_cases q : c' = c
    · rw [if_pos q] at e3
      subst q
      cases mm with
      | true =>
        obtain ⟨a, dx, fs, ws, g, rfl, h2, rfl, h4, h5, _⟩ := hx
        obtain ⟨v, g', l, r⟩ := look_repO h5 e3
        exact ⟨a, _, dx, _, v, rfl, h2, cl, na, l, k v _ r⟩
      | false =>
        obtain ⟨⟨a, dx, fs, ws, rfl, h2, rfl, h4, h5⟩, _⟩ := hx
        obtain ⟨v, l, r⟩ := look_rep h5 e3
        exact ⟨a, _, dx, _, v, rfl, s.same _ _ h2, cl, na, l, k v _ r.o⟩
    · rw [if_neg q] at e3; cases e3
  | _ => cases e3
def tMethX (C : Addr) (m : Str) (sp : Sp) (E : L2.St → XK) (ta : TE) (t : TA) : TE := fun σ H Q => ta σ H fun x H1 => ∃ a dx fs, x = .ref a ∧ H1 a = some (.ins C dx fs) ∧ fs.lookup m = none ∧ t σ H1 fun vs H2 => sp (x :: vs) H2 Q (E σ)
theorem pe_methX {CX : CXT} {k : Nat} {f C : Addr} {fd : FuncData} {ps : List Str} {sp : Sp} {E : L2.St → XK} {m : Str} {pos apos : Pos} {e o : Expr} {es : List Expr} {ta : TE} {t : TA} {pl : Sem Bool} (he : PE X o ta) (c : Cls X.K C) (hm : Meth X.K C m f) (F : FnOk X.prog X.w X.K X.mg X.base CX k f fd ps sp) (hr : Room k X.A) (hb : Binds X.K fd ps []) (hx : ∀ σ, PassesAt CX X σ (E σ)) (ha : PA X (e :: es) t)
    (hst : starEach (e :: es) X.env = (false, eval e X.env) :: starEach es X.env := by rfl) (hpl : (backTo pos (starEach es X.env)).any (·.1) = false := by rfl)
    (ht : eval (.Call (.Attribute o m apos) (e :: es) [] pos) X.env = (do
      let ov ← eval o X.env
      standAt apos.atName
      let (f, first) ← holding [ov] (getMethod ov m pl)
      callWith pos f first (backTo pos (starEach (e :: es) X.env)) (backToKw pos (keywordEach [] X.env))) := by rfl) :
    PE X (.Call (.Attribute o m apos) (e :: es) [] pos) (tMethX C m sp E ta t) := by
  refine ⟨fun pins s σ H Q I h => ?_⟩
  refine PySem.W.methodCall_KW (pl := pl) (thn (he.run pins s σ H _ I h) fun u s1 ⟨x, H1, I1, rx, a, dx, fs, ex, ea, l, q⟩ => ?_) ht
  subst ex
  obtain rfl : u = Value.ref a := rx
  refine getmeth_ok I1 ea c hm l ?_
  refine PySem.W.callWith_K (first := [.ref a]) (h₀ := X.base) I.ok.mod.kin hm.kp (thn (ha.run pos pins s1 σ H1 _ I1 q) fun us s2 ⟨vs, H2, I2, r, q2⟩ => ⟨I2.kIn, ?_⟩) hst hpl
  exact run_fnS (us := .ref a :: us) (vs := .ref a :: vs) F hr hb (hx σ) I2 (.cons rfl r) q2
def eMeth (As : List (Str × (List D → CR))) (m : Str) (mo : ME) (ma : MA) : ME := fun τ => (mo τ).bind fun d τ1 => match d with
  | .obj false c ns xs => match As.lookup c with
    | some g => if ns.contains m = true then .bad else (ma τ1).bind fun ds τ2 => ofC (g (.obj false c ns xs :: freezeL ds)) τ2
    | none => .bad
  | _ => .bad
theorem lookup_zip_none {m : Str} : ∀ {ns : List Str} {vs : List V}, ns.contains m = false → (ns.zip vs).lookup m = none
  | [], _, _ => rfl
  | _ :: _, [], _ => rfl
  | n :: ns, v :: vs, h => by
    rw [List.contains_cons] at h
    obtain ⟨h1, h2⟩ := Bool.or_eq_false_iff.mp h
    rw [List.zip_cons_cons, List.lookup_cons, h1]
    exact lookup_zip_none h2
structure IsO (K : PySem.W.Frag) (C A : Addr) (b : Bool) : Prop where
  cl : Cls K C
  ha : PySem.W.findIn K (.ref C) "__class__" = some (some (.builtin "object.__class__"))
  hn : PySem.W.specialIn K (.builtin "object.__class__") "__get__" = some (some (.builtin "getset_descriptor.__get__"))
  htk : PySem.W.takesIn K (.builtin "object.__class__") = some true
  hm : PySem.W.mroIn K C (.type "object") = some true
  ko : PySem.W.kitOne K (.ref C) (.ref A) = some b
def zIsO (tbl : Str → Option Bool) (m : MZ) : MZ := fun τ => (m τ).bind fun d => match d with
  | .obj _ c _ _ => (tbl c).map D.bl
  | _ => none
theorem RepL.append {K : PySem.W.Frag} {ca : Str → Addr} {F : Hp} : ∀ {xs ys : List D} {us vs : List V}, RepL K ca F xs us → RepL K ca F ys vs → RepL K ca F (xs ++ ys) (us ++ vs)
  | [], _, _, _, h, k => by cases (show _ = [] from h); exact k
  | x :: xs, ys, _, vs, ⟨v, r, e, h1, h2⟩, k => by subst e; exact ⟨v, r ++ vs, rfl, h1, h2.append k⟩
def catD : D → D → Option D
  | .lst false xs, .lst false ys => if xs.length + ys.length ≤ 1000000 then some (.lst true (xs ++ ys)) else none
  | _, _ => none
def slE' (o : Option D) (τ : Env) : R D := match o with
  | some x => .ok x τ | none => .bad
def eCat (a b : ME) : ME := fun τ => (a τ).bind fun x τ1 => (b τ1).bind fun y τ2 => slE' (catD (freeze x) (freeze y)) τ2
end
end Bn
namespace Bn
open PySem PySem.Spec PyProof.Rows L2
mutual
def clean : D → Bool
  | .non => true | .bl _ => true | .int _ => true | .str _ => true | .ty _ => true
  | .tup xs => cleanL xs
  | .lst m xs => m && cleanL xs
  | .cst _ => false
  | .obj m _ _ xs => m && cleanL xs
  | .val _ => false
  | .tpo xs => cleanL xs
  | .dct m _ xs => m && cleanL xs
def cleanL : List D → Bool
  | [] => true
  | x :: xs => clean x && cleanL xs
end
section
variable {K : PySem.W.Frag} {ca : Str → Addr} {F F' H H' : Hp}
mutual
theorem Rep.back (k : ∀ a xs, SqT K F a xs → SqT K F' a xs) : ∀ (d : D) (v : V), clean d = true → Rep K ca F d v → Rep K ca F' d v
  | .non, _, _, h => h
  | .bl _, _, _, h => h
  | .int _, _, _, h => h
  | .str _, _, _, h => h
  | .ty _, _, _, h => h
  | .tup ds, v, c, h => by
    obtain ⟨a, vs, h1, h2, h3⟩ := h
    exact ⟨a, vs, h1, k a vs h2, RepL.back k ds vs c h3⟩
  | .lst true _, _, _, h => h.elim
  | .lst false xs, _, c, _ => by cases (show (false && cleanL xs) = true from c)
  | .cst _, _, c, _ => by cases (show false = true from c)
  | .obj true _ _ _, _, _, h => h.elim
  | .obj false _ _ xs, _, c, _ => by cases (show (false && cleanL xs) = true from c)
  | .val _, _, c, _ => by cases (show false = true from c)
  | .tpo _, _, _, h => h.elim
  | .dct true _ _, _, _, h => h.elim
  | .dct false _ xs, _, c, _ => by cases (show (false && cleanL xs) = true from c)
theorem RepL.back (k : ∀ a xs, SqT K F a xs → SqT K F' a xs) : ∀ (ds : List D) (vs : List V), cleanL ds = true → RepL K ca F ds vs → RepL K ca F' ds vs
  | [], _, _, h => h
  | d :: ds, _, c, ⟨v, r, e, h1, h2⟩ => by
    have c' : (clean d && cleanL ds) = true := c
    rw [Bool.and_eq_true] at c'
    exact ⟨v, r, e, Rep.back k d v c'.1 h1, RepL.back k ds r c'.2 h2⟩
end
mutual
theorem RepO.back (k : ∀ a xs, SqT K F a xs → SqT K F' a xs) : ∀ (d : D) (v : V) (f : Ct), clean d = true → RepO K ca F H d v f → RepO K ca F' H d v f
  | .lst true ds, v, f, c, h => by
    obtain ⟨a, vs, g, h1, h2, h3, h4⟩ := h
    exact ⟨a, vs, g, h1, h2, RepOs.back k ds vs g (by have c' : (true && cleanL ds) = true := c; simpa using c') h3, h4⟩
  | .obj true _ ns ds, v, f, c, h => by
    obtain ⟨a, dx, fs, vs, g, h1, h2, h2', h2'', h3, h4⟩ := h
    exact ⟨a, dx, fs, vs, g, h1, h2, h2', h2'', RepOs.back k ds vs g (by have c' : (true && cleanL ds) = true := c; simpa using c') h3, h4⟩
  | .lst false _, v, f, c, h => ⟨Rep.back k _ v c h.1, h.2⟩
  | .obj false _ _ _, v, f, c, h => ⟨Rep.back k _ v c h.1, h.2⟩
  | .non, v, f, c, h => ⟨Rep.back k _ v c h.1, h.2⟩
  | .bl _, v, f, c, h => ⟨Rep.back k _ v c h.1, h.2⟩
  | .int _, v, f, c, h => ⟨Rep.back k _ v c h.1, h.2⟩
  | .str _, v, f, c, h => ⟨Rep.back k _ v c h.1, h.2⟩
  | .ty _, v, f, c, h => ⟨Rep.back k _ v c h.1, h.2⟩
  | .val _, v, f, c, h => ⟨Rep.back k _ v c h.1, h.2⟩
  | .tpo ds, v, f, c, h => by
    obtain ⟨a, vs, h1, h2, h3⟩ := h
    exact ⟨a, vs, h1, k a vs h2, RepOs.back k ds vs f c h3⟩
  | .dct true ks ds, v, f, c, h => by
    obtain ⟨a, vs, g, h1, h2, h2', h3, h4⟩ := h
    exact ⟨a, vs, g, h1, h2, h2', RepOs.back k ds vs g (by have c' : (true && cleanL ds) = true := c; simpa using c') h3, h4⟩
  | .dct false _ _, v, f, c, h => ⟨Rep.back k _ v c h.1, h.2⟩
  | .tup _, v, f, c, h => ⟨Rep.back k _ v c h.1, h.2⟩
  | .cst _, v, f, c, h => ⟨Rep.back k _ v c h.1, h.2⟩
theorem RepOs.back (k : ∀ a xs, SqT K F a xs → SqT K F' a xs) : ∀ (ds : List D) (vs : List V) (f : Ct), cleanL ds = true → RepOs K ca F H ds vs f → RepOs K ca F' H ds vs f
  | [], _, _, _, h => h
  | d :: ds, _, f, c, ⟨v, r, f1, f2, e, h1, h2, h3⟩ => by
    have c' : (clean d && cleanL ds) = true := c
    rw [Bool.and_eq_true] at c'
    exact ⟨v, r, f1, f2, e, RepO.back k d v f1 c'.1 h1, RepOs.back k ds r f2 c'.2 h2, h3⟩
end
def LsIn (H : Hp) (a : Addr) : Prop := (∃ xs, H a = some (.lst xs)) ∨ (∃ c dx fs, H a = some (.ins c dx fs)) ∨ ∃ kvs, H a = some (.dK kvs)
mutual
theorem RepO.kind : ∀ (d : D) (v : V) (f : Ct), RepO K ca F H d v f → ∀ a, 0 < f a → LsIn H a
  | .lst true ds, v, f, h, b, hb => by
    obtain ⟨a, vs, g, h1, h2, h3, h4⟩ := h
    by_cases e : b = a
    · subst e; exact .inl ⟨_, h2⟩
    · exact RepOs.kind ds vs g h3 b (by rw [h4, if_neg e] at hb; omega)
  | .obj true _ ns ds, v, f, h, b, hb => by
    obtain ⟨a, dx, fs, vs, g, h1, h2, h2', h2'', h3, h4⟩ := h
    by_cases e : b = a
    · subst e; exact .inr (.inl ⟨_, _, _, h2⟩)
    · exact RepOs.kind ds vs g h3 b (by rw [h4, if_neg e] at hb; omega)
  | .lst false _, v, f, h, b, hb => by rw [h.2] at hb; omega
  | .obj false _ _ _, v, f, h, b, hb => by rw [h.2] at hb; omega
  | .non, v, f, h, b, hb => by rw [h.2] at hb; omega
  | .bl _, v, f, h, b, hb => by rw [h.2] at hb; omega
  | .int _, v, f, h, b, hb => by rw [h.2] at hb; omega
  | .str _, v, f, h, b, hb => by rw [h.2] at hb; omega
  | .ty _, v, f, h, b, hb => by rw [h.2] at hb; omega
  | .val _, v, f, h, b, hb => by rw [h.2] at hb; omega
  | .tpo ds, v, f, h, b, hb => by
    obtain ⟨a, vs, h1, h2, h3⟩ := h
    exact RepOs.kind ds vs f h3 b hb
  | .dct true _ ds, v, f, h, b, hb => by
    obtain ⟨a, vs, g, h1, h2, h2', h3, h4⟩ := h
    by_cases e : b = a
    · subst e; exact .inr (.inr ⟨_, h2⟩)
    · exact RepOs.kind ds vs g h3 b (by rw [h4, if_neg e] at hb; omega)
  | .dct false _ _, v, f, h, b, hb => by rw [h.2] at hb; omega
  | .tup _, v, f, h, b, hb => by rw [h.2] at hb; omega
  | .cst _, v, f, h, b, hb => by rw [h.2] at hb; omega
theorem RepOs.kind : ∀ (ds : List D) (vs : List V) (f : Ct), RepOs K ca F H ds vs f → ∀ a, 0 < f a → LsIn H a
  | [], _, _, h, b, hb => by rw [h.2] at hb; omega
  | d :: ds, _, f, ⟨v, r, f1, f2, e, h1, h2, h3⟩, b, hb => by
    rw [h3] at hb
    by_cases q : 0 < f1 b
    · exact RepO.kind d v f1 h1 b q
    · exact RepOs.kind ds r f2 h2 b (by omega)
end
def lend (F H : Hp) (f : Ct) : Hp := fun b => match F b with
  | some o => some o
  | none => if 0 < f b then H b else none
theorem lend_same (F H : Hp) (f : Ct) : Same F (lend F H f) := fun b x e => by
  unfold lend; rw [e]
theorem lend_sub (sm : Same F H) (f : Ct) : Same (lend F H f) H := fun b x e => by
  unfold lend at e
  cases q : F b with
  | some o => rw [q] at e; cases e; exact sm _ _ q
  | none =>
    rw [q] at e
    replace e : (if 0 < f b then H b else none) = some x := e
    by_cases z : 0 < f b
    · rw [if_pos z] at e; exact e
    · rw [if_neg z] at e; cases e
theorem lend_at (sm : Same F H) {f : Ct} {b : Addr} (h : 0 < f b) : lend F H f b = H b := by
  unfold lend
  cases q : F b with
  | some o => exact (sm _ _ q).symm
  | none => exact if_pos h
end
section
variable {K : PySem.W.Frag} {B : Bx} {F H : Hp} {σ : L2.St} {τ : Env} {vs us : List V} {ds es : List D} {v : V} {d : D} {f : Ct}
theorem lend_rep (s : StT K B F H σ τ vs ds) (r : RepOs K B.ca F H es us f) : RepL K B.ca (lend F H f) (freezeL es) us :=
  RepOs.fz (lend_same F H f) _ _ _ (fun _ h => lend_at s.same h) r
theorem StT.lent {F' H' : Hp} {g : Ct} (s : StT K B F H σ τ vs ds) (r : RepOs K B.ca F H es us f) (h1 : Same (lend F H f) F') (h2 : Same F' H') (h3 : Same H H') (hv : RepO K B.ca F' H' d v g) (h4 : ∀ a, g a ≤ 1) (h5 : ∀ a, 0 < g a → F' a = none ∧ H a = none)
    (h6 : ∀ a, F' a ≠ none → lend F H f a ≠ none ∨ H a = none) (hc : clean d = true) : ∃ F2, StT K B F2 H' σ τ (v :: vs) (d :: ds) := by
  classical
  have sm := lend_same F H f
  refine ⟨fun b => if F b = none ∧ 0 < f b then none else F' b, s.called (g := g) (fun b x e => ?_) (fun b x e => ?_) h3 (hv.back (fun a xs q => ?_) _ _ _ hc) h4 (fun a q => ⟨?_, (h5 a q).2⟩) fun a q => ?_⟩
  · show (if F b = none ∧ 0 < f b then none else F' b) = some x
    rw [if_neg (fun z => by rw [z.1] at e; cases e)]
    exact h1 _ _ (sm _ _ e)
  · replace e : (if F b = none ∧ 0 < f b then none else F' b) = some x := e
    split at e
    · cases e
    · exact h2 _ _ e
  · rcases q with q | q
    · refine .inl ?_
      have key : ∀ o, F' a = some o → (∀ ys, o ≠ .lst ys) → (∀ c dx fs, o ≠ .ins c dx fs) → (∀ kvs, o ≠ .dK kvs) → (fun b => if F b = none ∧ 0 < f b then none else F' b) a = some o := fun o ho n1 n2 n3 => by
        show (if F a = none ∧ 0 < f a then none else F' a) = some o
        rw [if_neg (fun z => ?_)]
        · exact ho
        · have e := h1 a
          rw [lend_at s.same z.2] at e
          rcases RepOs.kind _ _ _ r a z.2 with ⟨ys, hk⟩ | ⟨c, dx, fs, hk⟩ | ⟨kvs, hk⟩
          · have := e _ hk
            rw [ho] at this
            cases this
            exact n1 _ rfl
          · have := e _ hk
            rw [ho] at this
            cases this
            exact n2 _ _ _ rfl
          · have := e _ hk
            rw [ho] at this
            cases this
            exact n3 _ rfl
      rcases q with q | ⟨o, q⟩
      · exact .inl (key _ q (fun _ z => by cases z) (fun _ _ _ z => by cases z) (fun _ z => by cases z))
      · exact .inr ⟨o, key _ q (fun _ z => by cases z) (fun _ _ _ z => by cases z) (fun _ z => by cases z)⟩
    · exact .inr q
  · show (if F a = none ∧ 0 < f a then none else F' a) = none
    split
    · rfl
    · exact (h5 a q).1
  · replace q : (if F a = none ∧ 0 < f a then none else F' a) ≠ none := q
    by_cases z : F a = none ∧ 0 < f a
    · rw [if_pos z] at q; exact absurd rfl q
    · rw [if_neg z] at q
      rcases h6 a q with k | k
      · refine .inl fun e => ?_
        unfold lend at k
        rw [e] at k
        replace k : (if 0 < f a then H a else none) ≠ none := k
        rw [if_neg (fun y => z ⟨e, y⟩)] at k
        exact k rfl
      · exact .inr k
end
def lendR (r : CR) (τ : Env) : R D := match r with
  | .ok d => if clean d = true then .ok d τ else .bad
  | .ex c => .ex c τ
  | .bad => .bad
def eCallZ (g : List D → CR) (m : Env → Option (List D)) : ME := fun τ => match m τ with
  | some ds => lendR (g (freezeL ds)) τ
  | none => .bad
section
variable {X : Cx} {B : Bx} {W : WX}
theorem lend_sp {g : List D → CR} {F H : Hp} {σ : L2.St} {τ : Env} {vs us : List V} {ds es : List D} {f : Ct} {Q : VK} (s : StT X.K B F H σ τ vs ds) (r : RepOs X.K B.ca F H es us f) {pre : List D} {prv : List V} (hp : RepL X.K B.ca F pre prv)
    (p : post (fun d τ' => ∀ v F' H', StT X.K B F' H' σ τ' (v :: vs) (d :: ds) → Q v H') (exW X.K B W σ vs ds) (lendR (g (pre ++ freezeL es)) τ)) : spP X.K B.ca g (prv ++ us) H Q (W · · σ ·) := by
  refine ⟨lend F H f, pre ++ freezeL es, lend_sub s.same f, (RepL.mono (lend_same F H f) _ _ hp).append (lend_rep s r), ?_⟩
  unfold lendR at p
  cases eg : g (pre ++ freezeL es) with
  | ok d =>
    rw [eg] at p
    replace p : post _ _ (if clean d = true then R.ok d τ else R.bad) := p
    by_cases z : clean d = true
    · rw [if_pos z] at p
      intro v F' H' f' k1 k2 k3 k4 k5 k6 k7
      obtain ⟨F2, s2⟩ := s.lent r k1 k2 k3 k4 k5 k6 k7 z
      exact p v F2 H' s2
    · rw [if_neg z] at p; exact p.elim
  | ex c => rw [eg] at p; exact fun H' k1 => p F H' (s.grown k1)
  | bad => rw [eg] at p; exact p
theorem e_callZ {x : Str} {p pos : Pos} {e : Expr} {es : List Expr} {m : Env → Option (List D)} {g : List D → CR} {k j : Nat} (c : XOk X W) (G : Fo X.prog X.w X.K X.mg X.base B.ca k x g) (hr : Room j X.A) (hg : Gl X x) (ha : PA X (e :: es) (rdZA X.K B m)) (hk : k ≤ j := by decide) (hdb : (x == ("__debug__" : Str)) = false := by decide)
    (he : starEach (e :: es) X.env = (false, eval e X.env) :: starEach es X.env := by rfl) (hpl : (backTo pos (starEach es X.env)).any (·.1) = false := by rfl) : PE X (.Call (.Name x p) (e :: es) [] pos) (rdE X.K B W (eCallZ g m)) := by
  obtain ⟨f, fd, ps, h1, h2, h3, h4⟩ := G.ex
  refine PE.imp (pe_callS h4 (hr.mono hk) hg h1 h2 h3 (fun σ => passAt c.tk σ) ha hdb he hpl) fun σ H Q h => ?_
  obtain ⟨F, τ, vs, ds, s, p⟩ := h
  unfold eCallZ at p
  cases em : m τ with
  | none => rw [em] at p; exact p.elim
  | some as =>
    rw [em] at p
    exact ⟨F, τ, vs, ds, s, as, em, fun us f r => lend_sp s r (pre := []) (prv := []) rfl p⟩
def eMethZ (As : List (Str × (List D → CR))) (m : Str) (mo : ME) (ma : Env → Option (List D)) : ME := fun τ => (mo τ).bind fun d τ1 => match d with
  | .obj false c ns xs => match As.lookup c with
    | some g => if ns.contains m = true then .bad else (match ma τ1 with
      | some ds => lendR (g (.obj false c ns xs :: freezeL ds)) τ1
      | none => .bad)
    | none => .bad
  | _ => .bad
theorem e_methZ {m : Str} {o e : Expr} {es : List Expr} {apos pos : Pos} {mo : ME} {ma : Env → Option (List D)} {As : List (Str × (List D → CR))} {k : Nat} {pl : Sem Bool} (c : XOk X W) (hAs : MAll X.prog X.w X.K X.mg X.base B.ca k m As) (hr : Room k X.A) (ho : PE X o (rdE X.K B W mo)) (ha : PA X (e :: es) (rdZA X.K B ma)) (hne : As ≠ [] := by exact fun z => nomatch z)
    (hst : starEach (e :: es) X.env = (false, eval e X.env) :: starEach es X.env := by rfl) (hpl : (backTo pos (starEach es X.env)).any (·.1) = false := by rfl)
    (ht : eval (.Call (.Attribute o m apos) (e :: es) [] pos) X.env = (do
      let ov ← eval o X.env
      standAt apos.atName
      let (f, first) ← holding [ov] (getMethod ov m pl)
      callWith pos f first (backTo pos (starEach (e :: es) X.env)) (backToKw pos (keywordEach [] X.env))) := by rfl) :
    PE X (.Call (.Attribute o m apos) (e :: es) [] pos) (rdE X.K B W (eMethZ As m mo ma)) := by
  refine ⟨fun pins s σ H Q I h => ?_⟩
  obtain ⟨F, τ, vs, ds, st, p⟩ := h
  unfold eMethZ at p
  cases em : mo τ with
  | bad => rw [em] at p; exact p.elim
  | ex y τ1 =>
    cases As with
    | nil => exact absurd rfl hne
    | cons p0 r0 =>
      obtain ⟨⟨k', f, fd, ps, hk, hm, hb, G⟩, cl⟩ := hAs.1
      refine (pe_methX (pl := pl) ho cl hm G (hr.mono hk) hb (fun σ => passAt c.tk σ) ha hst hpl ht).run pins s σ H Q I ⟨F, τ, vs, ds, st, ?_⟩
      rw [em] at p ⊢
      exact p
  | ok d τ1 =>
    rw [em] at p
    cases d with
    | obj mm cc ns xs =>
      cases mm with
      | true => exact p.elim
      | false =>
        replace p : post _ _ (match As.lookup cc with | some g => if ns.contains m = true then R.bad else (match ma τ1 with | some ds => lendR (g (.obj false cc ns xs :: freezeL ds)) τ1 | none => R.bad) | none => R.bad) := p
        cases eg : As.lookup cc with
        | none => rw [eg] at p; exact p.elim
        | some g =>
          rw [eg] at p
          by_cases nc : ns.contains m = true
          · replace p : post _ _ (if ns.contains m = true then R.bad else (match ma τ1 with | some ds => lendR (g (.obj false cc ns xs :: freezeL ds)) τ1 | none => R.bad)) := p
            rw [if_pos nc] at p; exact p.elim
          · replace p : post _ _ (if ns.contains m = true then R.bad else (match ma τ1 with | some ds => lendR (g (.obj false cc ns xs :: freezeL ds)) τ1 | none => R.bad)) := p
            rw [if_neg nc] at p
            cases ea : ma τ1 with
            | none => rw [ea] at p; exact p.elim
            | some as =>
              rw [ea] at p
              obtain ⟨⟨k', f, fd, ps, hk, hm, hb, G⟩, cl⟩ := hAs.get eg
              refine (pe_methX (pl := pl) ho cl hm G (hr.mono hk) hb (fun σ => passAt c.tk σ) ha hst hpl ht).run pins s σ H Q I ⟨F, τ, vs, ds, st, ?_⟩
              rw [em]
              intro v F1 H1 s1
              have rep := s1.topF rfl
              obtain ⟨a, dx, fs, ws, rfl, h2, rfl, h4, h5⟩ := rep
              have rep := s1.topF rfl
              refine ⟨a, dx, _, rfl, s1.same _ _ h2, lookup_zip_none (by simpa using nc), F1, τ1, _, _, s1, as, ea, fun us f r => ?_⟩
              exact lend_sp s1.pop r (pre := [.obj false cc ns xs]) (prv := [.ref a]) ⟨.ref a, [], rfl, rep, rfl⟩ p
    | _ => exact p.elim
theorem RepOs.set {K : PySem.W.Frag} {ca : Str → Addr} {F H : Hp} {d : D} {v : V} {g2 : Ct} (hv : RepO K ca F H d v g2) : ∀ {ds : List D} {vs : List V} {f : Ct} (j : Nat), RepOs K ca F H ds vs f → ∃ g, RepOs K ca F H (ds.set j d) (vs.set j v) g ∧ ∀ b, g b ≤ f b + g2 b
  | [], vs, f, j, h => by
    cases (show vs = [] from h.1)
    exact ⟨f, h, fun b => by omega⟩
  | x :: ds, _, f, 0, ⟨w, r, f1, f2, e, h1, h2, h3⟩ => by
    subst e
    exact ⟨fun b => g2 b + f2 b, ⟨v, r, g2, f2, rfl, hv, h2, fun _ => rfl⟩, fun b => by show g2 b + f2 b ≤ f b + g2 b; rw [h3]; omega⟩
  | x :: ds, _, f, j + 1, ⟨w, r, f1, f2, e, h1, h2, h3⟩ => by
    subst e
    obtain ⟨g, k1, k2⟩ := RepOs.set hv j h2
    exact ⟨fun b => f1 b + g b, ⟨w, r.set j v, f1, g, rfl, h1, k1, fun _ => rfl⟩, fun b => by show f1 b + g b ≤ f b + g2 b; have := k2 b; rw [h3]; omega⟩
def setD (es : List D) (k : Int) (d : D) : Option (List D) := (ixN es.length k).map fun j => es.set j d
def sSetIx (i : Nat) (mi : MZ) (m : ME) : MS := fun τ => (m τ).s fun d τ1 => match τ1.getD i none with
  | some (.lst true es) => (match mi τ1 with
    | some (.int k) => (match setD es k d with
      | some es' => .nx (τ1.set i (some (.lst true es')))
      | none => .bad)
    | _ => .bad)
  | _ => .bad
theorem s_setIx {i : Nat} {o ix e : Expr} {pos pos' : Pos} {mi : MZ} {m : ME} (ho : PE X o (tVar i)) (hi : PE X ix (rdZ X.K B mi)) (he : PE X e (rdE X.K B W m)) (hs : swapsWithSole [.Subscript o ix pos'] e pos.line X.env = pure false := by rfl) (hw : swappedStores [.Subscript o ix pos'] e X.env = pure none := by rfl)
    (h1 : (assignEach [.Subscript o ix pos'] X.env).map (·.2) = [assign (.Subscript o ix pos') X.env] := by rfl)
    (ha : ∀ v, assign (.Subscript o ix pos') X.env v = (do
      let ov ← holding [v] (eval o X.env)
      let iv ← holding [v, ov] (eval ix X.env)
      standAt pos'
      holding [v, ov, iv] (setItem ov iv v)
      release [v, ov, iv] []) := by intro _; rfl) : PS X (.Assign [.Subscript o ix pos'] e pos) (rdS X.K B W (sSetIx i mi m)) :=
  PS.imp (ps_asg he (pg_sub ho hi set_list ha) hs hw h1) fun D σ H ⟨F, τ, vs, ds, s, p⟩ => by
    refine ⟨F, τ, vs, ds, s, post_imp (post_s (σ := σ) p) (fun d τ1 q y F1 H1 s1 => ?_) fun _ _ q => q⟩
    cases e1 : τ1.getD i none with
    | none => rw [e1] at q; exact q.elim
    | some dl =>
      rw [e1] at q
      cases dl with
      | lst mm es =>
        cases mm with
        | false => exact q.elim
        | true =>
          replace q : postS X.K B W vs ds D (match mi τ1 with | some (.int k) => (match setD es k d with | some es' => SR.nx (τ1.set i (some (.lst true es'))) | none => SR.bad) | _ => SR.bad) := q
          cases e2 : mi τ1 with
          | none => rw [e2] at q; exact q.elim
          | some dk =>
            rw [e2] at q
            cases dk with
            | int k =>
              replace q : postS X.K B W vs ds D (match setD es k d with | some es' => SR.nx (τ1.set i (some (.lst true es'))) | none => SR.bad) := q
              cases e3 : ixN es.length k with
              | none => unfold setD at q; rw [e3] at q; exact q.elim
              | some j =>
                unfold setD at q; rw [e3] at q
                replace q : postS X.K B W vs ds D (SR.nx (τ1.set i (some (.lst true (es.set j d))))) := q
                have e1' := getD_some e1
                obtain ⟨v, f, h1, a, us, g, rfl, h2, h3, _⟩ := s1.get e1'
                refine ⟨.ref a, h1, F1, τ1, _, _, s1, .int k, e2, fun w fw hw => ?_⟩
                obtain rfl : w = V.int k := hw.1
                refine ⟨a, us, k, j, rfl, rfl, h2, by rw [h3.length]; exact e3, ?_⟩
                obtain ⟨v, k1, s2⟩ := s1.take e1'
                rw [h1] at k1
                cases k1
                have s3 := s2.change (us := [y]) (ds := [d]) (ys := us.set j y) (es2 := es.set j d) rfl h2 fun g1 g2 r1 r2 => by
                  obtain ⟨_, r, f1, f2, ey, q1, q2, q3⟩ := r2
                  cases ey
                  obtain ⟨g, k1, k2⟩ := RepOs.set q1 j r1
                  exact ⟨g, k1, fun b => by have := k2 b; have := q3 b; have := q2.2 b; omega⟩
                have s4 := s3.putBack (i := i) (by rw [List.length_set]; exact (List.getElem?_eq_some_iff.mp e1').1) h1
                rw [List.set_set] at s4
                exact q σ F1 _ s4
            | _ => exact q.elim
      | _ => exact q.elim
def gInD (neg : Bool) (a b : D) : Option D := match b with
  | .lst m xs => if okP a = true ∧ okP (.lst m xs) = true then some (.bl (if neg = true then !(toPs xs).any fun z => PyData.eqv z (toP a) else (toPs xs).any fun z => PyData.eqv z (toP a))) else none
  | _ => none
theorem sInD {K : PySem.W.Frag} : OpS K (rInD K) (gInD false) := by
  intro ca F H x y a b d f1 f2 Q sm hx hy e q
  cases b with
  | lst m xs =>
    replace e : (if okP a = true ∧ okP (.lst m xs) = true then some (D.bl ((toPs xs).any fun z => PyData.eqv z (toP a))) else none) = some d := e
    by_cases c : okP a = true ∧ okP (.lst m xs) = true
    · rw [if_pos c] at e
      cases e
      have c1 := c.1
      have c2 := c.2
      unfold okP at c1 c2
      rw [Bool.and_eq_true] at c1 c2
      exact ⟨_, _, RepO.dp sm a x f1 c1.1 hx, RepO.dp sm _ y f2 c2.1 hy, c1.2, c2.2, q (.bl _) _ (Rep.o (d := .bl _) rfl)⟩
    · rw [if_neg c] at e; cases e
  | _ => cases e
theorem units65 {k : Nat} {A : Around} (r : Room k A) : A.units + 65 < cLine := by have := r.un; omega
theorem RepOs.getI {K : PySem.W.Frag} {ca : Str → Addr} {F H : Hp} : ∀ {es : List D} {us : List V} {g : Ct} {i : Nat} {d : D}, RepOs K ca F H es us g → es[i]? = some d → ∃ v f, us[i]? = some v ∧ RepO K ca F H d v f
  | [], _, _, _, _, _, e => by simp at e
  | x :: es, _, _, 0, d, ⟨v, r, f1, f2, e, h1, _⟩, hd => by
    subst e
    simp at hd; subst hd
    exact ⟨v, f1, rfl, h1⟩
  | x :: es, _, _, i + 1, d, ⟨v, r, f1, f2, e, _, h2, _⟩, hd => by
    subst e
    obtain ⟨w, f, k1, k2⟩ := RepOs.getI (i := i) h2 (by simpa using hd)
    exact ⟨w, f, by simpa using k1, k2⟩
theorem StT.len {K : PySem.W.Frag} {F H : Hp} {σ : L2.St} {τ : Env} {vs : List V} {ds : List D} (s : StT K B F H σ τ vs ds) : σ.length = τ.length := by
  obtain ⟨_, _, a, _⟩ := s
  exact a.length
end
end Bn
namespace Bn
open PySem PySem.Spec PyProof.Rows L2
inductive CR2 where
  | ok (d : D) (outs : List D)
  | bad
def ioL : Nat → List V → List (Nat × V)
  | _, [] => []
  | j, u :: us => (j, u) :: ioL (j + 1) us
def spIO (K : PySem.W.Frag) (ca : Str → Addr) (k : Nat) (g : List D → CR2) : Sp := fun vs H Q _ => ∃ F f ios rest us ws, vs = us ++ ws ∧ ios.length = k ∧ RepOs K ca F H ios us f ∧ RepL K ca F rest ws ∧ Same F H ∧ (∀ a, f a ≤ 1) ∧ (∀ a, 0 < f a → F a = none) ∧
  match g (ios ++ rest) with
  | .ok d outs => ∀ v F' H' g', Same F F' → Same F' H' → (∀ a o, f a = 0 → H a = some o → H' a = some o) → RepOs K ca F' H' (d :: outs) (v :: us) g' → (∀ a, g' a ≤ 1) → (∀ a, 0 < g' a → F' a = none ∧ (H a = none ∨ 0 < f a)) → (∀ a, F' a ≠ none → F a ≠ none ∨ H a = none ∨ 0 < f a) → Q v H'
  | .bad => False
structure FoI (P : Program) (w : World) (K : PySem.W.Frag) (mg : Str → Option Value) (base : Heap) (ca : Str → Addr) (k : Nat) (x : Str) (m : Nat) (g : List D → CR2) : Prop where
  ex : ∃ f fd ps, mg x = some (.ref f) ∧ PySem.W.keepIn K (.ref f) = true ∧ Binds K fd ps [] ∧ FnOk P w K mg base (L2.CX P w) k f fd ps (spIO K ca m g)
def outsE : Nat → Env → Option (List D)
  | 0, _ => some []
  | _ + 1, [] => none
  | k + 1, o :: τ => match o with
    | none => none
    | some d => (outsE k τ).map (d :: ·)
def outR (k : Nat) (d : D) (τ : Env) : CR2 := match outsE k τ with
  | some os => .ok d os
  | none => .bad
def callFI (n N k : Nat) (b : MS) : List D → CR2 := fun ds => if ds.length = n then (match b (ds.map some ++ List.replicate (N - n) none) with
  | .nx τ => outR k .non τ
  | .rt d τ => outR k d τ
  | _ => .bad) else .bad
section
variable {K : PySem.W.Frag} {ca : Str → Addr} {F H : Hp}
theorem sl_startO {rest : List D} {ws : List V} {k : Nat} (hr : RepL K ca F rest ws) : ∀ {ios : List D} {us : List V} {f : Ct}, RepOs K ca F H ios us f → Sl K ca F H ((ios ++ rest).map some ++ List.replicate k none) ((us ++ ws).map some ++ List.replicate k none) f
  | [], us, f, h => by
    cases (show us = [] from h.1)
    have e : f = fun _ => 0 := funext h.2
    subst e
    exact sl_start hr
  | d :: ds, _, f, ⟨v, r, f1, f2, e, h1, h2, h3⟩ => by
    subst e
    exact ⟨v, _, f1, f2, rfl, h1, sl_startO hr h2, h3⟩
theorem sl_outs : ∀ {k : Nat} {τ : Env} {σ : L2.St} {f : Ct} {os : List D} {us : List V}, Sl K ca F H τ σ f → outsE k τ = some os → us.length = k → σ.take k = us.map some → ∃ g r : Ct, RepOs K ca F H os us g ∧ ∀ b, f b = g b + r b
  | 0, τ, σ, f, os, us, h, e, hl, _ => by
    cases (show some [] = some os from e)
    cases us with
    | nil => exact ⟨fun _ => 0, f, ⟨rfl, fun _ => rfl⟩, fun b => by show f b = 0 + f b; omega⟩
    | cons _ _ => cases hl
  | k + 1, [], σ, f, os, us, h, e, _, _ => by cases e
  | k + 1, none :: τ, σ, f, os, us, h, e, _, _ => by cases e
  | k + 1, some d :: τ, _, f, os, us, ⟨v, r, f1, f2, h1, h2, h3, h4⟩, e, hl, ht => by
    subst h1
    replace e : (outsE k τ).map (d :: ·) = some os := e
    cases e2 : outsE k τ with
    | none => rw [e2] at e; cases e
    | some os' =>
      rw [e2] at e
      cases e
      cases us with
      | nil => cases hl
      | cons u us =>
        rw [List.take_succ_cons, List.map_cons] at ht
        injection ht with ht1 ht2
        cases ht1
        obtain ⟨g, r', k1, k2⟩ := sl_outs h3 e2 (by simpa using hl) ht2
        exact ⟨fun b => f1 b + g b, r', ⟨v, us, f1, g, rfl, h2, k1, fun _ => rfl⟩, fun b => by show f b = f1 b + g b + r' b; rw [h4, k2]; omega⟩
theorem ioL_get : ∀ {us : List V} {j : Nat} {p : Nat × V}, p ∈ ioL j us → j ≤ p.1 ∧ us[p.1 - j]? = some p.2
  | [], _, _, h => by cases h
  | u :: us, j, p, h => by
    rcases List.mem_cons.mp h with rfl | h
    · exact ⟨Nat.le_refl _, by simp⟩
    · obtain ⟨h1, h2⟩ := ioL_get h
      refine ⟨by omega, ?_⟩
      rw [show p.1 - j = (p.1 - (j + 1)) + 1 by omega, List.getElem?_cons_succ]
      exact h2
theorem ioL_mem : ∀ {us : List V} {j i : Nat} {u : V}, us[i]? = some u → (j + i, u) ∈ ioL j us
  | [], _, _, _, h => by simp at h
  | x :: us, j, 0, u, h => by simp at h; subst h; exact List.mem_cons_self
  | x :: us, j, i + 1, u, h => by
    have := ioL_mem (j := j + 1) (i := i) (us := us) (u := u) (by simpa using h)
    rw [show j + 1 + i = j + (i + 1) by omega] at this
    exact List.mem_cons_of_mem _ this
end
section
variable {P : Program} {w : World} {K : PySem.W.Frag} {mg : Str → Option Value} {base : Heap} {ca : Str → Addr}
theorem fn_okIO {x qual : Str} {st : Stmt} {f : Addr} {fd : FuncData} {N ps : List Str} {k m : Nat} {b : MS} (F : Fun K x qual st f fd) (S : FnScope N ps (defScope st)) (hm : m ≤ ps.length)
    (hb : ∀ (cdv : Value) (A : Around) (outer : List PySem.Env) (s : Shared) (H : Hp) (E : XK) (F0 R : Hp) (us : List V), us.length = m → Room k (A.deeper (envOfC qual (defScope st) s.heap.objs.size f cdv)) →
      XOk (cxOf (L2.CX P w) P w K mg base N qual (defScope st) f cdv A outer s H E) (fun cls d _ H => E cls d H) →
      PSs (cxOf (L2.CX P w) P w K mg base N qual (defScope st) f cdv A outer s H E) (defBody st) (rdS K ⟨ca, F0, R, ioL 0 us⟩ (fun cls d _ H => E cls d H) b)) :
    FnOk P w K mg base (L2.CX P w) (k + 1) f fd ps (spIO K ca m (callFI ps.length N.length m b)) := by
  classical
  refine F.okX S (fun vs H Q E h => ?_) (fun cdv A outer s H vs Q E hr h => ?_)
  · obtain ⟨F0, g, ios, rest, us, ws, rfl, _, r1, r2, _, _, _, h⟩ := h
    by_cases e : (ios ++ rest).length = ps.length
    · rw [← e, List.length_append, List.length_append, r1.length, r2.length]
    · unfold callFI at h
      rw [if_neg e] at h
      exact h.elim
  · obtain ⟨F0, g, ios, rest, us, ws, rfl, him, r1, r2, sm, nd, dF, h⟩ := h
    have ul : us.length = m := by rw [r1.length]; exact him
    refine ⟨_, hb cdv A outer s H E F0 (fun a => if 0 < g a then none else H a) us ul hr ⟨takes_of rfl rfl rfl rfl, passes_of rfl, rfl⟩, ?_⟩
    have hl : (ios ++ rest).length = ps.length := by
      by_cases e : (ios ++ rest).length = ps.length
      · exact e
      · unfold callFI at h
        rw [if_neg e] at h
        exact h.elim
    unfold callFI at h
    rw [if_pos hl] at h
    have hstart : L2.start N (us ++ ws) = (us ++ ws).map some ++ List.replicate (N.length - ps.length) none := by
      unfold L2.start
      rw [← hl, List.length_append, List.length_append, r1.length, r2.length]
    have st0 : StT K ⟨ca, F0, (fun a => if 0 < g a then none else H a), ioL 0 us⟩ F0 H (L2.start N (us ++ ws)) ((ios ++ rest).map some ++ List.replicate (N.length - ps.length) none) [] [] := by
      refine ⟨g, fun _ => 0, ?_, ⟨rfl, fun _ => rfl⟩, ⟨fun a => nd a, fun a q => dF a q, fun a q => if_pos q, sm, fun a o e => ?_, Same.refl _, fun a q => .inl q⟩, fun p hp => ?_⟩
      · rw [hstart]; exact sl_startO r2 r1
      · replace e : (if 0 < g a then none else H a) = some o := e
        split at e
        · cases e
        · exact e
      · rw [hstart]
        obtain ⟨_, h2⟩ := ioL_get hp
        rw [Nat.sub_zero] at h2
        have hlt := (List.getElem?_eq_some_iff.mp h2).1
        rw [List.getElem?_append_left (by rw [List.length_map, List.length_append]; omega), List.getElem?_map, List.getElem?_append_left hlt, h2]
        rfl
    refine ⟨F0, _, [], [], st0, ?_⟩
    have done : ∀ (d : D) (τ : Env) (v : V) (σ' : L2.St) (F' H' : Hp), (match outR m d τ with | .ok d outs => ∀ v F' H' g', Same F0 F' → Same F' H' → (∀ a o, g a = 0 → H a = some o → H' a = some o) → RepOs K ca F' H' (d :: outs) (v :: us) g' → (∀ a, g' a ≤ 1) → (∀ a, 0 < g' a → F' a = none ∧ (H a = none ∨ 0 < g a)) → (∀ a, F' a ≠ none → F0 a ≠ none ∨ H a = none ∨ 0 < g a) → Q v H' | .bad => False) → StT K ⟨ca, F0, (fun a => if 0 < g a then none else H a), ioL 0 us⟩ F' H' σ' τ [v] [d] → Q v H' := by
      intro d τ v σ' F' H' h s'
      unfold outR at h
      cases eo : outsE m τ with
      | none => rw [eo] at h; exact h.elim
      | some os =>
        rw [eo] at h
        obtain ⟨f1, f2, hs, ⟨_, _, g1, g2, ee, hv, _, q⟩, w', io⟩ := s'
        cases ee
        have ht : σ'.take m = us.map some := by
          apply List.ext_getElem?
          intro i
          rw [List.getElem?_take, List.getElem?_map]
          split
          · rename_i hi
            have hu : us[i]? = some us[i] := List.getElem?_eq_getElem (by omega)
            have := io _ (ioL_mem (j := 0) hu)
            rw [Nat.zero_add] at this
            rw [this, hu]; rfl
          · rw [List.getElem?_eq_none (by omega)]; rfl
        obtain ⟨g3, r3, k1, k2⟩ := sl_outs hs eo ul ht
        have le : ∀ a, g1 a + g3 a ≤ f1 a + f2 a := fun a => by rw [q, k2]; omega
        refine h v F' H' (fun a => g1 a + g3 a) w'.s0 w'.sF (fun a o e1 e2 => w'.sR a o (by show (if 0 < g a then none else H a) = some o; rw [if_neg (by omega)]; exact e2)) ⟨v, us, g1, g3, rfl, hv, k1, fun _ => rfl⟩ (fun a => Nat.le_trans (le a) (w'.nd a)) (fun a z => ⟨w'.dF a (Nat.lt_of_lt_of_le z (le a)), ?_⟩) fun a z => ?_
        · have := w'.dR a (Nat.lt_of_lt_of_le z (le a))
          replace this : (if 0 < g a then none else H a) = none := this
          split at this
          · exact .inr (by assumption)
          · exact .inl this
        · rcases w'.fr a z with y | y
          · exact .inl y
          · replace y : (if 0 < g a then none else H a) = none := y
            split at y
            · exact .inr (.inr (by assumption))
            · exact .inr (.inl y)
    cases e : b ((ios ++ rest).map some ++ List.replicate (N.length - ps.length) none) with
    | nx τ =>
      rw [e] at h
      intro σ' F' H' s'
      exact done .non τ .non σ' F' H' h (s'.push rfl)
    | rt d τ =>
      rw [e] at h
      intro v σ' F' H' s'
      exact done d τ v σ' F' H' h s'
    | ex c τ => rw [e] at h; exact h.elim
    | bk τ => rw [e] at h; exact h.elim
    | ct τ => rw [e] at h; exact h.elim
    | bad => rw [e] at h; exact h.elim
theorem foI_of {x qual : Str} {st : Stmt} {f : Addr} {fd : FuncData} {ps : List Str} {k m : Nat} {g : List D → CR2} (F : Fun K x qual st f fd) (hm : mg x = some (.ref f)) (hb : Binds K fd ps []) (h : FnOk P w K mg base (L2.CX P w) k f fd ps (spIO K ca m g)) : FoI P w K mg base ca k x m g := ⟨f, fd, ps, hm, F.kp, hb, h⟩
end
def takeD : List Nat → Env → Option (List D × Env)
  | [], τ => some ([], τ)
  | i :: is, τ => match τ.getD i none with
    | none => none
    | some d => (takeD is (τ.set i none)).map fun p => (d :: p.1, p.2)
def putD : List Nat → List D → Env → Env
  | i :: is, d :: ds, τ => putD is ds (τ.set i (some d))
  | _, _, τ => τ
def callI (g : List D → CR2) (is : List Nat) (ds : List D) (τ1 : Env) : R D := match takeD is τ1 with
  | none => .bad
  | some (ios, τ2) => match g (ios ++ freezeL ds) with
    | .ok d outs => if outs.length = is.length then .ok d (putD is outs τ2) else .bad
    | .bad => .bad
def eCallI (g : List D → CR2) (is : List Nat) (m : MA) : ME := fun τ => if is.all (fun i => (τ.getD i none).isSome) = true then (m τ).bind fun ds τ1 => callI g is ds τ1 else .bad
def tIO : List Nat → TA → TA
  | [], t => t
  | i :: r, t => fun σ H Q => ∃ v, σ[i]? = some (some v) ∧ tIO r t σ H fun us H' => Q (v :: us) H'
section
variable {X : Cx} {B : Bx} {W : WX}
theorem pa_io0 {es : List Expr} {t : TA} (h : PA X es t) : PA X es (tIO [] t) := h
theorem pa_io {e : Expr} {es : List Expr} {i : Nat} {is : List Nat} {t : TA} (he : PE X e (tVar i)) (h : PA X es (tIO is t)) (hs : starEach (e :: es) X.env = (false, eval e X.env) :: starEach es X.env := by rfl) : PA X (e :: es) (tIO (i :: is) t) := pa_cons he h hs
theorem io_vals {F H : Hp} {σ : L2.St} {τ : Env} {vs : List V} {ds : List D} (s : StT X.K B F H σ τ vs ds) : ∀ (is : List Nat), is.all (fun i => (τ.getD i none).isSome) = true → ∃ vals : List V, vals.length = is.length ∧ (∀ (j i : Nat), is[j]? = some i → ∃ v, vals[j]? = some v ∧ σ[i]? = some (some v)) ∧ ∀ (t : TA) (H : Hp) (Q : List V → Hp → Prop), (t σ H fun us H' => Q (vals ++ us) H') → tIO is t σ H Q
  | [], _ => ⟨[], rfl, fun j i h => by simp at h, fun t H Q h => h⟩
  | i :: is, h => by
    rw [List.all_cons, Bool.and_eq_true] at h
    obtain ⟨vals, h1, h2, h3⟩ := io_vals s is h.2
    cases e : τ.getD i none with
    | none => rw [e] at h; cases h.1
    | some d =>
      obtain ⟨v, f, k1, _⟩ := s.get (getD_some e)
      refine ⟨v :: vals, by simp [h1], fun j i' hj => ?_, fun t H Q q => ⟨v, k1, h3 t H _ q⟩⟩
      cases j with
      | zero => simp at hj; subst hj; exact ⟨v, rfl, k1⟩
      | succ j => obtain ⟨w, e1, e2⟩ := h2 j i' (by simpa using hj); exact ⟨w, by simpa using e1, e2⟩
theorem StT.takes {F H : Hp} {σ : L2.St} : ∀ {is : List Nat} {τ τ' : Env} {vs vals : List V} {ds ios : List D}, StT X.K B F H σ τ vs ds → takeD is τ = some (ios, τ') → vals.length = is.length → (∀ (j i : Nat), is[j]? = some i → ∃ v, vals[j]? = some v ∧ σ[i]? = some (some v)) → ios.length = is.length ∧ StT X.K B F H σ τ' (vals ++ vs) (ios ++ ds)
  | [], τ, τ', vs, vals, ds, ios, s, e, hl, _ => by
    cases (show some ([], τ) = some (ios, τ') from e)
    cases vals with
    | nil => exact ⟨rfl, s⟩
    | cons _ _ => cases hl
  | i :: is, τ, τ', vs, vals, ds, ios, s, e, hl, hv => by
    cases e1 : τ.getD i none with
    | none =>
      unfold takeD at e
      rw [e1] at e; cases e
    | some d =>
      unfold takeD at e
      rw [e1] at e
      replace e : (takeD is (τ.set i none)).map (fun p => (d :: p.1, p.2)) = some (ios, τ') := e
      cases e2 : takeD is (τ.set i none) with
      | none => rw [e2] at e; cases e
      | some p =>
        rw [e2] at e
        cases e
        cases vals with
        | nil => cases hl
        | cons v vals =>
          obtain ⟨v', k1, k2⟩ := hv 0 i rfl
          obtain ⟨v2, k3, s1⟩ := s.take (getD_some e1)
          have : v' = v := by simpa using k1.symm
          subst this
          rw [k2] at k3
          cases k3
          obtain ⟨hl2, s2⟩ := StT.takes (vals := vals) (ios := p.1) (τ' := p.2) s1 e2 (by simpa using hl) fun j i' hj => by
            obtain ⟨w, q1, q2⟩ := hv (j + 1) i' (by simpa using hj)
            exact ⟨w, by simpa using q1, q2⟩
          have hl3 : vals.length = p.1.length := by
            have : vals.length = is.length := by simpa using hl
            omega
          exact ⟨by simp [hl2], s2.swap hl3⟩
theorem StT.puts {F H : Hp} {σ : L2.St} {v0 : V} {d0 : D} : ∀ {is : List Nat} {τ : Env} {vs vals : List V} {ds outs : List D}, StT X.K B F H σ τ (v0 :: (vals ++ vs)) (d0 :: (outs ++ ds)) → vals.length = is.length → outs.length = is.length → (∀ (j i : Nat), is[j]? = some i → ∃ v, vals[j]? = some v ∧ σ[i]? = some (some v)) → StT X.K B F H σ (putD is outs τ) (v0 :: vs) (d0 :: ds)
  | [], τ, vs, vals, ds, outs, s, hl, ho, _ => by
    cases vals with
    | nil => cases outs with
      | nil => exact s
      | cons _ _ => cases ho
    | cons _ _ => cases hl
  | i :: is, τ, vs, vals, ds, outs, s, hl, ho, hv => by
    cases vals with
    | nil => cases hl
    | cons v vals => cases outs with
      | nil => cases ho
      | cons d outs =>
        obtain ⟨v', k1, k2⟩ := hv 0 i rfl
        have : v' = v := by simpa using k1.symm
        subst this
        have s1 := StT.swap (us := [v0]) (es := [d0]) s rfl
        have s2 := s1.putBack (i := i) (by rw [← s1.len]; exact (List.getElem?_eq_some_iff.mp k2).1) k2
        have s3 : StT X.K B F H σ (τ.set i (some d)) (v0 :: (vals ++ vs)) (d0 :: (outs ++ ds)) := s2
        show StT X.K B F H σ (putD is outs (τ.set i (some d))) (v0 :: vs) (d0 :: ds)
        exact StT.puts (is := is) (vals := vals) (outs := outs) s3 (by simpa using hl) (by simpa using ho) fun j i' hj => by
          obtain ⟨w, q1, q2⟩ := hv (j + 1) i' (by simpa using hj)
          exact ⟨w, by simpa using q1, q2⟩
theorem StT.calledIO {K : PySem.W.Frag} {F H : Hp} {σ : L2.St} {τ : Env} {vs vals : List V} {ds ios : List D} (hl : vals.length = ios.length) (s : StT K B F H σ τ (vals ++ vs) (ios ++ ds)) : ∃ f : Ct, RepOs K B.ca F H ios vals f ∧ (∀ a, f a ≤ 1) ∧ (∀ a, 0 < f a → F a = none) ∧
    ∀ (F' H' : Hp) (v : V) (d : D) (outs : List D) (g' : Ct), Same F F' → Same F' H' → (∀ a o, f a = 0 → H a = some o → H' a = some o) → RepOs K B.ca F' H' (d :: outs) (v :: vals) g' → (∀ a, g' a ≤ 1) → (∀ a, 0 < g' a → F' a = none ∧ (H a = none ∨ 0 < f a)) → (∀ a, F' a ≠ none → F a ≠ none ∨ H a = none ∨ 0 < f a) → StT K B F' H' σ τ (v :: (vals ++ vs)) (d :: (outs ++ ds)) := by
  obtain ⟨f1, f2, A, b, w, io⟩ := s
  obtain ⟨fi, fr, b1, b2, q⟩ := b.split' hl
  have nd : ∀ a, f1 a + (fi a + fr a) ≤ 1 := fun a => by rw [← q]; exact w.nd a
  refine ⟨fi, b1, fun a => by have := nd a; omega, fun a h => w.dF a (by show 0 < f1 a + f2 a; rw [q]; omega), fun F' H' v d outs g' h1 h2 h3 hv h4 h5 h6 => ?_⟩
  have t1 : ∀ x, 0 < f1 x → H x ≠ none := A.there
  have t2 : ∀ x, 0 < fr x → H x ≠ none := b2.there _ _ _
  have k : ∀ x, H x ≠ none → fi x = 0 → H' x = H x := fun x hx hf => by
    cases e : H x with
    | none => exact absurd e hx
    | some o => exact h3 _ _ hf e
  obtain ⟨_, us', g1, g2, ee, hd, ho, hq⟩ := hv
  cases ee
  refine ⟨f1, fun b => g1 b + (g2 b + fr b), A.mono h1 fun x hx => k x (t1 x hx) (by have := nd x; omega), ⟨v, vals ++ vs, g1, fun b => g2 b + fr b, rfl, hd, ho.append (RepOs.mono h1 _ _ _ (fun x hx => k x (t2 x hx) (by have := nd x; omega)) b2), fun _ => rfl⟩, ?_, io⟩
  have old : ∀ x, 0 < f1 x + fr x → F' x = none := fun x hx => by
    have hF := w.dF x (by show 0 < f1 x + f2 x; rw [q]; omega)
    cases e : F' x with
    | none => rfl
    | some o =>
      rcases h6 x (by rw [e]; exact fun z => by cases z) with z | z | z
      · exact absurd hF z
      · by_cases y : 0 < f1 x
        · exact absurd z (t1 x y)
        · exact absurd z (t2 x (by omega))
      · have := nd x; omega
  refine ⟨fun x => ?_, fun x hx => ?_, fun x hx => ?_, h2, fun x o e => h3 x o ?_ (w.sR x o e), w.s0.trans h1, fun x hx => ?_⟩
  · show f1 x + (g1 x + (g2 x + fr x)) ≤ 1
    have g4 := h4 x
    rw [hq] at g4
    by_cases y : 0 < g1 x + g2 x
    · rcases (h5 x (by rw [hq]; exact y)).2 with z | z
      · have : ¬ 0 < f1 x := fun e => t1 x e z
        have : ¬ 0 < fr x := fun e => t2 x e z
        omega
      · have := nd x; omega
    · have := nd x; omega
  · replace hx : 0 < f1 x + (g1 x + (g2 x + fr x)) := hx
    by_cases y : 0 < g1 x + g2 x
    · exact (h5 x (by rw [hq]; exact y)).1
    · exact old x (by omega)
  · replace hx : 0 < f1 x + (g1 x + (g2 x + fr x)) := hx
    by_cases y : 0 < g1 x + g2 x
    · rcases (h5 x (by rw [hq]; exact y)).2 with z | z
      · cases e : B.R x with
        | none => rfl
        | some o => rw [w.sR _ _ e] at z; cases z
      · exact w.dR x (by show 0 < f1 x + f2 x; rw [q]; omega)
    · exact w.dR x (by show 0 < f1 x + f2 x; rw [q]; omega)
  · by_cases y : 0 < fi x
    · have := w.dR x (by show 0 < f1 x + f2 x; rw [q]; omega)
      rw [this] at e; cases e
    · omega
  · rcases h6 x hx with z | z | z
    · exact w.fr x z
    · right
      cases e : B.R x with
      | none => rfl
      | some o => rw [w.sR _ _ e] at z; cases z
    · exact .inr (w.dR x (by show 0 < f1 x + f2 x; rw [q]; omega))
theorem e_callI {x : Str} {p pos : Pos} {e : Expr} {es : List Expr} {m : MA} {g : List D → CR2} {k j n : Nat} {is : List Nat} (c : XOk X W) (G : FoI X.prog X.w X.K X.mg X.base B.ca k x n g) (hr : Room j X.A) (hg : Gl X x) (ha : PA X (e :: es) (tIO is (rdA X.K B W m))) (hn : is.length = n := by rfl) (hk : k ≤ j := by decide) (hdb : (x == ("__debug__" : Str)) = false := by decide)
    (he : starEach (e :: es) X.env = (false, eval e X.env) :: starEach es X.env := by rfl) (hpl : (backTo pos (starEach es X.env)).any (·.1) = false := by rfl) : PE X (.Call (.Name x p) (e :: es) [] pos) (rdE X.K B W (eCallI g is m)) := by
  obtain ⟨f, fd, ps, h1, h2, h3, h4⟩ := G.ex
  refine PE.imp (pe_callS h4 (hr.mono hk) hg h1 h2 h3 (fun σ => passAt c.tk σ) ha hdb he hpl) fun σ H Q h => ?_
  obtain ⟨F, τ, vs, ds, s, p⟩ := h
  unfold eCallI at p
  by_cases z : is.all (fun i => (τ.getD i none).isSome) = true
  · rw [if_pos z] at p
    obtain ⟨vals, v1, v2, v3⟩ := io_vals s is z
    refine v3 _ H _ ⟨F, τ, vs, ds, s, post_imp (post_bind p) (fun as τ1 q us F1 H1 hl s1 => ?_) fun _ _ q => q⟩
    obtain ⟨F2, sm, rl, s2⟩ := s1.freeze hl
    unfold callI at q
    cases et : takeD is τ1 with
    | none => rw [et] at q; exact q.elim
    | some pr =>
      obtain ⟨ios, τ2⟩ := pr
      rw [et] at q
      replace q : post _ _ (match g (ios ++ freezeL as) with | .ok d outs => if outs.length = is.length then R.ok d (putD is outs τ2) else R.bad | .bad => R.bad) := q
      obtain ⟨il, s3⟩ := s2.takes et v1 v2
      have hvl : vals.length = ios.length := by omega
      cases eg : g (ios ++ freezeL as) with
      | bad => rw [eg] at q; exact q.elim
      | ok d outs =>
        rw [eg] at q
        replace q : post _ _ (if outs.length = is.length then R.ok d (putD is outs τ2) else R.bad) := q
        by_cases ol : outs.length = is.length
        · rw [if_pos ol] at q
          obtain ⟨f0, r0, n0, d0, fin⟩ := StT.calledIO hvl s3
          refine ⟨F2, f0, ios, freezeL as, vals, us, rfl, by omega, r0, rl, s3.same, n0, d0, ?_⟩
          rw [eg]
          intro v F' H' g' a1 a2 a3 a4 a5 a6 a7
          exact q v F' H' (StT.puts (fin F' H' v d outs g' a1 a2 a3 a4 a5 a6 a7) v1 ol v2)
        · rw [if_neg ol] at q; exact q.elim
  · rw [if_neg z] at p; exact p.elim
def sPar (i j : Nat) (m : MA) : MS := fun τ => (m τ).s fun ds τ1 => match ds with
  | [x, y] => .nx ((τ1.set i (some x)).set j (some y))
  | _ => .bad
def insI (x : Int) : List Int → List Int
  | [] => [x]
  | y :: r => if x ≤ y then x :: y :: r else y :: insI x r
def sortI : List Int → List Int
  | [] => []
  | x :: r => insI x (sortI r)
def eSorted (m : MA) : ME := fun τ => (m τ).bind fun ds τ1 => match freezeL ds with
  | [.lst _ es] => (match intsOf es with
    | some ns => .ok (.lst true ((sortI ns).map D.int)) τ1
    | none => .bad)
  | _ => .bad
def findP (d : PyData) : List PyData → Nat → Option Nat
  | [], _ => none
  | z :: r, k => if PyData.eqv z d = true then some k else findP d r (k + 1)
theorem findP_ok {d : PyData} : ∀ {ds : List PyData} {k j : Nat}, findP d ds k = some j → k ≤ j ∧ (∃ z, ds[j - k]? = some z ∧ PyData.eqv z d = true) ∧ ∀ (m : Nat) (z : PyData), m < j - k → ds[m]? = some z → PyData.eqv z d = false
  | [], _, _, e => by cases e
  | z :: r, k, j, e => by
    unfold findP at e
    by_cases q : PyData.eqv z d = true
    · rw [if_pos q] at e
      cases e
      exact ⟨Nat.le_refl _, ⟨z, by simp, q⟩, fun m z h => by omega⟩
    · rw [if_neg q] at e
      obtain ⟨h1, ⟨w, h2, h3⟩, h4⟩ := findP_ok e
      refine ⟨by omega, ⟨w, ?_, h3⟩, fun m y hm hy => ?_⟩
      · rw [show j - k = (j - (k + 1)) + 1 by omega, List.getElem?_cons_succ]; exact h2
      · cases m with
        | zero => simp at hy; subst hy; simpa using q
        | succ m => exact h4 m y (by omega) (by simpa using hy)
def gIndex (b a : D) : Option D := match b with
  | .lst m xs => if okP a = true ∧ okP (.lst m xs) = true then (findP (toP a) (toPs xs) 0).map fun j => .int (j : Nat) else none
  | _ => none
theorem z_index {k : Nat} {o e : Expr} {apos cpos : Pos} {m n : MZ} (hr : Room k X.A) (ho : PE X o (rdZ X.K B m)) (he : PE X e (rdZ X.K B n))
    (hbase : attributeBase o "index" X.env (eval o X.env) = eval o X.env := by rfl)
    (hfew : ((backTo cpos (starEach [e] X.env)).all (fun x => !x.1) && (backToKw cpos (keywordEach [] X.env)).all (fun x => x.1.isSome)
      && decide ([e].length + ([] : List Keyword).length + (if ([] : List Keyword).isEmpty then 0 else 1) < 30)) = true := by rfl)
    (hline : (apos.endLine == cpos.line) = true := by rfl) (hs : starEach [e] X.env = (false, eval e X.env) :: starEach [] X.env := by rfl) (hplain : (backTo cpos (starEach [] X.env)).any (·.1) = false := by rfl) :
    PE X (.Call (.Attribute o "index" apos) [e] [] cpos) (rdZ X.K B (z2 gIndex m n)) :=
  PE.imp (pe_bm PySem.F.plainAttrs_list PySem.F.slot_list_index PySem.F.type_list_index (mt_indexD (units65 hr)) ho (pa_cons he pa_nil hs) hbase hfew hline hs hplain) fun σ H Q ⟨F, τ, vs, ds, s, d, e, q⟩ => by
    obtain ⟨b, eb, e⟩ := bind_some e
    obtain ⟨a, ea, e⟩ := bind_some e
    refine ⟨F, τ, vs, ds, s, b, eb, fun x f1 hx => ?_⟩
    cases b with
    | lst mm xs =>
      replace e : (if okP a = true ∧ okP (.lst mm xs) = true then (findP (toP a) (toPs xs) 0).map (fun j => D.int (j : Nat)) else none) = some d := e
      by_cases c : okP a = true ∧ okP (.lst mm xs) = true
      · rw [if_pos c] at e
        cases ef : findP (toP a) (toPs xs) 0 with
        | none => rw [ef] at e; cases e
        | some j =>
          rw [ef] at e
          cases e
          have c1 := c.1
          have c2 := c.2
          unfold okP at c1 c2
          rw [Bool.and_eq_true] at c1 c2
          have hD := RepO.dp (K := X.K) s.same _ x f1 c2.1 hx
          have hx' : ∃ a us, x = .ref a ∧ SqL X.K H a us := by
            cases mm with
            | true => obtain ⟨a, us, g, rfl, h2, _⟩ := hx; exact ⟨a, us, rfl, sqOf h2⟩
            | false => obtain ⟨⟨a, us, rfl, h2, _⟩, _⟩ := hx; exact ⟨a, us, rfl, sqOf (s.same _ _ h2)⟩
          obtain ⟨ad, us, rfl, hsq⟩ := hx'
          refine ⟨.inl ⟨rfl, us, hsq⟩, F, τ, vs, ds, s, a, ea, fun y f2 hy => ?_⟩
          obtain ⟨_, ⟨z, k1, k2⟩, k3⟩ := findP_ok ef
          exact ⟨ad, y, toP a, toPs xs, j, z, rfl, rfl, hD, RepO.dp s.same a y f2 c1.1 hy, c2.2, c1.2, k1, k2, k3, q (.int (j : Nat)) _ (Rep.o (d := .int (j : Nat)) rfl)⟩
      · rw [if_neg c] at e; cases e
    | _ => cases e
instance decCMul {i j : Int} : Decidable (CMul i j) := by unfold CMul; infer_instance
def gIsB : D → D → Option D
  | .bl a, .bl b => some (.bl (decide (a = b)))
  | _, _ => none
end
end Bn
namespace Bn
open PySem PySem.Spec PyProof.Rows L2
section
variable {prog : Program} {w : World} {A : Around} {E : Value → Shared → Prop} {s : Shared}
end
section
variable {X : Cx}
end
section
variable {X : Cx} {B : Bx} {W : WX}
def eLstRev (m : ME) : ME := fun τ => (m τ).bind fun d τ1 => match freeze d with
  | .lst _ es => .ok (.lst true es.reverse) τ1
  | _ => .bad
theorem RepL.app {K : PySem.W.Frag} {ca : Str → Addr} {F : Hp} : ∀ {ds es : List D} {vs us : List V}, RepL K ca F ds vs → RepL K ca F es us → RepL K ca F (ds ++ es) (vs ++ us)
  | [], es, vs, us, h, k => by cases (show vs = [] from h); exact k
  | d :: ds, es, _, us, ⟨v, r, h1, h2, h3⟩, k => by subst h1; exact ⟨v, r ++ us, rfl, h2, h3.app k⟩
theorem RepL.rev {K : PySem.W.Frag} {ca : Str → Addr} {F : Hp} : ∀ {ds : List D} {vs : List V}, RepL K ca F ds vs → RepL K ca F ds.reverse vs.reverse
  | [], vs, h => by cases (show vs = [] from h); exact rfl
  | d :: ds, _, ⟨v, r, h1, h2, h3⟩ => by
    subst h1
    rw [List.reverse_cons, List.reverse_cons]
    exact h3.rev.app ⟨v, [], rfl, h2, rfl⟩
def sClear (i : Nat) : MS := fun τ => match τ.getD i none with
  | some (.lst true _) => .nx (τ.set i (some (.lst true [])))
  | _ => .bad
def isOwnL : D → Bool
  | .lst true _ => true
  | _ => false
theorem RepOs.clr {K : PySem.W.Frag} {ca : Str → Addr} {F H : Hp} : ∀ {es : List D} {us : List V} {g : Ct} {k : Nat} {ws : List D}, RepOs K ca F H es us g → es[k]? = some (.lst true ws) → (∀ a, g a ≤ 1) →
    ∃ b vs, us[k]? = some (.ref b) ∧ H b = some (.lst vs) ∧ 0 < g b ∧ ∃ g', RepOs K ca F (upd H b (.lst [])) (es.set k (.lst true [])) us g' ∧ ∀ x, g' x ≤ g x
  | [], _, _, _, _, _, e, _ => by simp at e
  | d :: es, _, g, 0, ws, ⟨v, r, f1, f2, e, h1, h2, h3⟩, hd, nd => by
    subst e
    have : d = .lst true ws := by simpa using hd
    subst this
    obtain ⟨b, vs, g1, rfl, hx, hg, q⟩ := h1
    have f1b : f1 b = 1 + g1 b := by rw [q, if_pos rfl]
    have one := nd b
    rw [h3, f1b] at one
    refine ⟨b, vs, rfl, hx, by rw [h3, f1b]; omega, fun x => (if x = b then 1 else 0) + f2 x, ?_, fun x => ?_⟩
    · refine ⟨.ref b, r, fun x => if x = b then 1 else 0, f2, rfl, ⟨b, [], fun _ => 0, rfl, upd_same, ⟨rfl, fun _ => rfl⟩, fun x => rfl⟩, RepOs.mono (Same.refl _) _ _ _ (fun x hx => upd_ne fun e => ?_) h2, fun _ => rfl⟩
      subst e; omega
    · show (if x = b then 1 else 0) + f2 x ≤ g x
      rw [h3, q]; omega
  | d :: es, _, g, k + 1, ws, ⟨v, r, f1, f2, e, h1, h2, h3⟩, hd, nd => by
    subst e
    obtain ⟨b, vs, k1, k2, k3, g', k4, k5⟩ := RepOs.clr (k := k) (ws := ws) h2 (by simpa using hd) (fun a => by have := nd a; rw [h3] at this; omega)
    have one := nd b
    rw [h3] at one
    refine ⟨b, vs, by simpa using k1, k2, by rw [h3]; omega, fun x => f1 x + g' x, ⟨v, r, f1, g', rfl, RepO.mono (Same.refl _) _ _ _ (fun x hx => upd_ne fun e => ?_) h1, k4, fun _ => rfl⟩, fun x => by show f1 x + g' x ≤ g x; rw [h3]; have := k5 x; omega⟩
    subst e; omega
theorem StT.clr {K : PySem.W.Frag} {F H : Hp} {σ : L2.St} {τ : Env} {vs : List V} {es ds ws : List D} {a : Addr} {k : Nat} (s : StT K B F H σ τ (.ref a :: vs) (.lst true es :: ds)) (hk : es[k]? = some (.lst true ws)) :
    ∃ us b xs, H a = some (.lst us) ∧ us[k]? = some (.ref b) ∧ H b = some (.lst xs) ∧ StT K B F (upd H b (.lst [])) σ τ (.ref a :: vs) (.lst true (es.set k (.lst true [])) :: ds) := by
  obtain ⟨f1, f2, A, ⟨_, _, g1, g2, e, h, b2, q⟩, w, io⟩ := s
  cases e
  obtain ⟨a', us, g3, e', hx, h3, q3⟩ := h
  cases e'
  have tot : ∀ x, f1 x + f2 x = f1 x + ((if x = a then 1 else 0) + g3 x + g2 x) := fun x => by rw [q, q3]
  have nd : ∀ x, f1 x + ((if x = a then 1 else 0) + g3 x + g2 x) ≤ 1 := fun x => by rw [← tot]; exact w.nd x
  obtain ⟨b, xs, k1, k2, k3, g', k4, k5⟩ := RepOs.clr h3 hk fun x => by have := nd x; omega
  have nb := nd b
  have hba : a ≠ b := fun e => by subst e; rw [if_pos rfl] at nb; omega
  rw [if_neg (fun e => hba e.symm)] at nb
  have off : ∀ {φ : Ct}, φ b = 0 → ∀ x, 0 < φ x → upd H b (.lst []) x = H x := fun {φ} hz x hx => upd_ne fun e => by rw [e, hz] at hx; omega
  have fb : F b = none := w.dF b (by show 0 < f1 b + f2 b; rw [tot]; omega)
  have rb : B.R b = none := w.dR b (by show 0 < f1 b + f2 b; rw [tot]; omega)
  refine ⟨us, b, xs, hx, k1, k2, f1, fun x => ((if x = a then 1 else 0) + g' x) + g2 x, A.mono (Same.refl _) (off (by omega)), ⟨.ref a, vs, fun x => (if x = a then 1 else 0) + g' x, g2, rfl, ⟨a, us, g', rfl, (upd_ne hba).trans hx, k4, fun _ => rfl⟩, RepOs.mono (Same.refl _) _ _ _ (off (by omega)) b2, fun _ => rfl⟩, ?_, io⟩
  have w2 : Wd B F H (fun x => f1 x + (((if x = a then 1 else 0) + g' x) + g2 x)) := w.less fun x => by
    show f1 x + (((if x = a then 1 else 0) + g' x) + g2 x) ≤ f1 x + f2 x
    have := tot x; have := k5 x; omega
  exact ⟨w2.nd, w2.dF, w2.dR, fun x o e => by rw [upd_ne (ne_of_none e fb)]; exact w.sF x o e, fun x o e => by rw [upd_ne (ne_of_none e rb)]; exact w.sR x o e, w.s0, w.fr⟩
def clrL (k : Nat) (es : List D) : List D := List.replicate k (.lst true []) ++ es.drop k
def sClearEach (i j : Nat) : MS := fun τ => match τ.getD i none with
  | some (.lst true es) => if es.all isOwnL = true ∧ j < τ.length then .nx ((τ.set j none).set i (some (.lst true (clrL es.length es)))) else .bad
  | _ => .bad
theorem RepOs.insI {K : PySem.W.Frag} {ca : Str → Addr} {F H : Hp} {d0 : D} {v0 : V} {f0 : Ct} (h0 : RepO K ca F H d0 v0 f0) : ∀ {es : List D} {us : List V} {g : Ct} (k : Nat), RepOs K ca F H es us g → ∃ g', RepOs K ca F H (es.take k ++ [d0] ++ es.drop k) (us.take k ++ [v0] ++ us.drop k) g' ∧ ∀ x, g' x ≤ g x + f0 x
  | es, us, g, 0, h => by
    refine ⟨fun x => f0 x + g x, ?_, fun x => by show f0 x + g x ≤ g x + f0 x; omega⟩
    simp only [List.take_zero, List.drop_zero, List.nil_append, List.singleton_append]
    exact ⟨v0, us, f0, g, rfl, h0, h, fun _ => rfl⟩
  | [], us, g, k + 1, h => by
    have e : us = [] := h.1
    subst e
    refine ⟨f0, ?_, fun x => by omega⟩
    exact ⟨v0, [], f0, fun _ => 0, rfl, h0, ⟨rfl, fun _ => rfl⟩, fun _ => rfl⟩
  | d :: es, _, g, k + 1, ⟨v, r, f1, f2, e, h1, h2, h3⟩ => by
    subst e
    obtain ⟨g', k1, k2⟩ := RepOs.insI h0 k h2
    exact ⟨fun x => f1 x + g' x, ⟨v, _, f1, g', rfl, h1, k1, fun _ => rfl⟩, fun x => by show f1 x + g' x ≤ g x + f0 x; rw [h3]; have := k2 x; omega⟩
def popD (es : List D) (k : Int) : Option (List D) := if -(2 ^ 63) ≤ k ∧ k < 2 ^ 63 then (ixN es.length k).map fun j => es.eraseIdx j else none
def sPopAt (i : Nat) (mi : MZ) : MS := fun τ => match τ.getD i none with
  | some (.lst true es) => (match mi τ with
    | some (.int k) => (match popD es k with
      | some es' => .nx (τ.set i (some (.lst true es')))
      | none => .bad)
    | _ => .bad)
  | _ => .bad
def sIns (i : Nat) (mi : MZ) (m : ME) : MS := fun τ => match τ.getD i none, mi τ with
  | some (.lst true _), some (.int k) => (m τ).s fun d τ1 => (match τ1.getD i none with
    | some (.lst true es) => if es.length < 1000000 ∧ 0 ≤ k ∧ k < 2 ^ 63 then .nx (τ1.set i (some (.lst true (es.take k.toNat ++ [d] ++ es.drop k.toNat)))) else .bad
    | _ => .bad)
  | _, _ => .bad
end
end Bn
namespace Bn
open PySem PySem.Spec PyProof.Rows L2
def rangeN (lo : Int) (n : Nat) : List D := (List.range n).map fun k => D.int (lo + (k : Nat) * (-1))
section
variable {X : Cx} {B : Bx} {W : WX}
def skQ (rr : R (Option Int)) (es : List D) (lo : Option Int) (i : Nat) : R D := match rr with
  | .ok hi τ2 => .ok (.lst true (cutL es lo hi)) (τ2.set i (some (.lst true es)))
  | _ => .bad
def skP (rp : R (Option Int)) (es : List D) (i : Nat) (r : Env → R (Option Int)) : R D := match rp with
  | .ok lo τ1 => skQ (r τ1) es lo i
  | _ => .bad
def skD (o : Option D) (i : Nat) (p r : Env → R (Option Int)) (τ : Env) : R D := match o with
  | some (.lst true es) => if es.all isFz = true then skP (p (τ.set i none)) es i r else .bad
  | _ => .bad
def eSliceK (i : Nat) (p r : Env → R (Option Int)) : ME := fun τ => skD (τ.getD i none) i p r τ
def lkR (o : Option D) (τ : Env) : R D := match o with
  | some (.lst true es) => if es.all isFz = true then .ok (.lst true es) τ else .bad
  | _ => .bad
def eLstK (i : Nat) : ME := fun τ => lkR (τ.getD i none) τ
def ckR (g : List D → CR) (o : Option D) (es : List D) (τ : Env) : R D := match o with
  | some d => lendR (g (freezeL [d] ++ freezeL es)) τ
  | none => .bad
def eCallK (g : List D → CR) (i : Nat) (m : MA) : ME := fun τ => if (τ.getD i none).isSome = true then (m τ).bind fun es τ1 => ckR g (τ1.getD i none) es τ1 else .bad
end
end Bn
namespace Bn
open PySem PySem.Spec PyProof.Rows L2
section
variable {P : Program} {w : World} {K : PySem.W.Frag} {mg : Str → Option Value} {base : Heap} {ca : Str → Addr}
theorem Fo.at {x : Str} {g : List D → CR} {k j : Nat} (F : Fo P w K mg base ca k x g) (h : k = j) : Fo P w K mg base ca j x g := h ▸ F
end
def gInt : List D → Option D
  | [.int i] => some (.int i)
  | [.bl b] => some (.int (if b then 1 else 0))
  | _ => none
def eTupOf (m : MA) : ME := fun τ => (m τ).bind fun ds τ1 => match freezeL ds with
  | [.lst _ es] => .ok (.tup es) τ1
  | [.tup es] => .ok (.tup es) τ1
  | _ => .bad
end Bn
namespace Bn
open PySem PySem.Spec PyProof.Rows L2
def CDivX (i j : Int) : Prop := j ≠ 0 ∧ j.natAbs.log2 < 9000
instance {i j : Int} : Decidable (CDivX i j) := by unfold CDivX; infer_instance
end Bn
namespace Bn
open PySem PySem.Spec PyProof.Rows L2
def eFz (m : ME) : ME := fun τ => (m τ).bind fun d τ1 => .ok (freeze d) τ1
end Bn
namespace Bn
open PySem PySem.Spec PyProof.Rows L2
section
variable {X : Cx} {B : Bx} {W : WX}
def iK' (d : D) (τ : Env) : R (List D) := match d with
  | .cst es => .ok es τ
  | _ => .bad
def iK (m : ME) : MA := fun τ => (m τ).bind fun d τ1 => iK' d τ1
end
end Bn
namespace Bn
open PySem PySem.Spec PyProof.Rows L2
def Bx.io1 (B : Bx) (i : Nat) (v : V) : Bx := ⟨B.ca, B.F0, B.R, (i, v) :: B.io⟩
def fbR (i : Nat) (es : List D) (r : SR) : SR := match r with
  | .nx τ2 => .nx (τ2.set i (some (.lst true es)))
  | .rt d τ2 => .rt d τ2
  | .ex c τ2 => .ex c τ2
  | _ => .bad
def fbD (o : Option D) (i : Nat) (g : D → Env → Option Env) (b : MS) (τ : Env) : SR := match o with
  | some (.lst true es) => if es.all isFz = true then fbR i es (forL g b es (τ.set i none)) else .bad
  | _ => .bad
def sForB (i : Nat) (g : D → Env → Option Env) (b : MS) : MS := fun τ => fbD (τ.getD i none) i g b τ
section
variable {X : Cx} {B : Bx} {W : WX}
theorem StT.io1 {K : PySem.W.Frag} {F H : Hp} {σ : L2.St} {τ : Env} {vs : List V} {ds : List D} {i : Nat} {v : V} (s : StT K B F H σ τ vs ds) (h : σ[i]? = some (some v)) : StT K (B.io1 i v) F H σ τ vs ds := by
  obtain ⟨f1, f2, a, b, w, io⟩ := s
  exact ⟨f1, f2, a, b, ⟨w.nd, w.dF, w.dR, w.sF, w.sR, w.s0, w.fr⟩, fun p hp => by
    rcases List.mem_cons.mp hp with rfl | hp
    · exact h
    · exact io p hp⟩
theorem StT.io0 {K : PySem.W.Frag} {F H : Hp} {σ : L2.St} {τ : Env} {vs : List V} {ds : List D} {i : Nat} {v : V} (s : StT K (B.io1 i v) F H σ τ vs ds) : σ[i]? = some (some v) ∧ StT K B F H σ τ vs ds := by
  obtain ⟨f1, f2, a, b, w, io⟩ := s
  exact ⟨io (i, v) List.mem_cons_self, f1, f2, a, b, ⟨w.nd, w.dF, w.dR, w.sF, w.sR, w.s0, w.fr⟩, fun p hp => io p (List.mem_cons_of_mem _ hp)⟩
end
end Bn
namespace Bn
open PySem PySem.Spec PyProof.Rows L2
section
variable {X : Cx} {B : Bx} {W : WX}
end
end Bn
namespace Bn
open PySem PySem.Spec PyProof.Rows L2
section
variable {X : Cx} {B : Bx} {W : WX}
end
end Bn
namespace Bn
open PySem PySem.Spec PyProof.Rows L2
def putL (f : Str) (e : D) : List Str → List D → List D
  | n :: ns, x :: xs => if f = n then e :: xs else x :: putL f e ns xs
  | _, xs => xs
section
variable {K : PySem.W.Frag} {ca : Str → Addr} {F H : Hp} {f : Str}
theorem fld_out {d : D} : ∀ {ns : List Str} {xs : List D} {vs : List V} {g : Ct}, RepOs K ca F H xs vs g → lookD f ns xs = some d → ∃ w g1 g2, (ns.zip vs).lookup f = some w ∧ RepO K ca F H d w g1 ∧ RepOs K ca F H (putL f (.val w) ns xs) vs g2 ∧ ∀ b, g b = g1 b + g2 b
  | [], _, _, _, _, e => by cases e
  | _ :: _, [], _, _, _, e => by cases e
  | n :: ns, x :: xs, _, g, ⟨v, r, f1, f2, rfl, h1, h2, h3⟩, e => by
    have e : (if f = n then some x else lookD f ns xs) = some d := e
    show ∃ w g1 g2, ((n, v) :: ns.zip r).lookup f = some w ∧ _ ∧ RepOs K ca F H (if f = n then .val w :: xs else x :: putL f (.val w) ns xs) (v :: r) g2 ∧ _
    rw [List.lookup_cons]
    by_cases q : f = n
    · rw [if_pos q] at e
      cases e
      have q' : (f == n) = true := by simpa using q
      simp only [q', if_pos q]
      exact ⟨v, f1, f2, rfl, h1, ⟨v, r, fun _ => 0, f2, rfl, ⟨rfl, fun _ => rfl⟩, h2, fun b => by show f2 b = 0 + f2 b; omega⟩, h3⟩
    · rw [if_neg q] at e
      have q' : (f == n) = false := by simpa using q
      obtain ⟨w, g1, g2, k1, k2, k3, k4⟩ := fld_out h2 e
      simp only [q', if_neg q]
      exact ⟨w, g1, fun b => f1 b + g2 b, k1, k2, ⟨v, r, f1, g2, rfl, h1, k3, fun _ => rfl⟩, fun b => by show g b = g1 b + (f1 b + g2 b); rw [h3, k4]; omega⟩
theorem fld_in {d e : D} {w : V} : ∀ {ns : List Str} {xs : List D} {vs : List V} {g1 g2 : Ct}, lookD f ns xs = some d → RepOs K ca F H (putL f (.val w) ns xs) vs g2 → RepO K ca F H e w g1 → ∃ g, RepOs K ca F H (putL f e ns xs) vs g ∧ ∀ b, g b = g1 b + g2 b
  | [], _, _, _, _, l, _, _ => by cases l
  | _ :: _, [], _, _, _, l, _, _ => by cases l
  | n :: ns, x :: xs, vs, g1, g2, l, h, k => by
    have l : (if f = n then some x else lookD f ns xs) = some d := l
    replace h : RepOs K ca F H (if f = n then .val w :: xs else x :: putL f (.val w) ns xs) vs g2 := h
    show ∃ g, RepOs K ca F H (if f = n then e :: xs else x :: putL f e ns xs) vs g ∧ _
    by_cases q : f = n
    · rw [if_pos q] at h ⊢
      obtain ⟨v, r, f1, f2, rfl, ⟨h1, h1'⟩, h2, h3⟩ := h
      have h1 : v = w := h1
      subst h1
      exact ⟨fun b => g1 b + f2 b, ⟨v, r, g1, f2, rfl, k, h2, fun _ => rfl⟩, fun b => by show g1 b + f2 b = g1 b + g2 b; rw [h3, h1']; omega⟩
    · rw [if_neg q] at h l ⊢
      obtain ⟨v, r, f1, f2, rfl, h1, h2, h3⟩ := h
      obtain ⟨g, k1, k2⟩ := fld_in l h2 k
      exact ⟨fun b => f1 b + g b, ⟨v, r, f1, g, rfl, h1, k1, fun _ => rfl⟩, fun b => by show f1 b + g b = g1 b + g2 b; rw [h3, k2]; omega⟩
end
section
variable {K : PySem.W.Frag} {B : Bx} {F H : Hp} {σ : L2.St} {τ : Env} {vs us : List V} {ds es : List D} {v : V} {d : D}
theorem StT.fieldOut {i : Nat} {c f : Str} {ns : List Str} {xs : List D} (s : StT K B F H σ τ vs ds) (e : τ[i]? = some (some (.obj true c ns xs))) (l : lookD f ns xs = some d) :
    ∃ (a dx : Addr) (ws : List V) (w : V), σ[i]? = some (some (.ref a)) ∧ H a = some (.ins (B.ca c) dx (ns.zip ws)) ∧ ns.length = ws.length ∧ (ns.zip ws).lookup f = some w ∧ StT K B F H σ (τ.set i none) (w :: .ref a :: vs) (d :: .obj true c ns (putL f (.val w) ns xs) :: ds) := by
  obtain ⟨v, k1, s1⟩ := s.take e
  obtain ⟨f1, f2, A, ⟨_, _, g1, g2, e2, h, b, q⟩, w, io⟩ := s1
  cases e2
  obtain ⟨a, dx, fs, ws, g, rfl, hx, rfl, hl, h5, h6⟩ := h
  obtain ⟨w0, p1, p2, q1, q2, q3, q4⟩ := fld_out h5 l
  refine ⟨a, dx, ws, w0, k1, hx, hl, q1, f1, fun b => p1 b + (((if b = a then 1 else 0) + p2 b) + g2 b), A, ⟨w0, _, p1, _, rfl, q2, ⟨.ref a, vs, fun b => (if b = a then 1 else 0) + p2 b, g2, rfl, ⟨a, dx, _, ws, p2, rfl, hx, rfl, hl, q3, fun _ => rfl⟩, b, fun _ => rfl⟩, fun _ => rfl⟩, ?_, io⟩
  have e3 : (fun b => f1 b + (p1 b + (((if b = a then 1 else 0) + p2 b) + g2 b))) = fun b => f1 b + f2 b := funext fun b => by rw [q, h6, q4]; omega
  rw [e3]; exact w
theorem StT.fieldIn {i : Nat} {a : Addr} {c f : Str} {ns : List Str} {xs : List D} {d0 e : D} {w : V} (s : StT K B F H σ τ (w :: .ref a :: vs) (e :: .obj true c ns (putL f (.val w) ns xs) :: ds)) (l : lookD f ns xs = some d0) (hv : σ[i]? = some (some (.ref a))) (hi : i < τ.length) : StT K B F H σ (τ.set i (some (.obj true c ns (putL f e ns xs)))) vs ds := by
  obtain ⟨f1, f2, A, ⟨_, _, g1, g2, e2, h, ⟨_, _, g3, g4, e3, h', b, q'⟩, q⟩, wd, io⟩ := s
  cases e2
  cases e3
  obtain ⟨a', dx, fs, ws, g, ea, hx, hf, hl, h5, h6⟩ := h'
  cases ea
  obtain ⟨g5, k1, k2⟩ := fld_in l h5 h
  have s2 : StT K B F H σ τ (.ref a :: vs) (.obj true c ns (putL f e ns xs) :: ds) := by
    refine ⟨f1, fun b => ((if b = a then 1 else 0) + g5 b) + g4 b, A, ⟨.ref a, vs, fun b => (if b = a then 1 else 0) + g5 b, g4, rfl, ⟨a, dx, fs, ws, g5, rfl, hx, hf, hl, k1, fun _ => rfl⟩, b, fun _ => rfl⟩, ?_, io⟩
    have e4 : (fun b => f1 b + (((if b = a then 1 else 0) + g5 b) + g4 b)) = fun b => f1 b + f2 b := funext fun b => by rw [q, q', h6, k2]; omega
    rw [e4]; exact wd
  exact s2.putBack hi hv
end
section
variable {X : Cx} {B : Bx} {W : WX}
def appF2 (i : Nat) (c f : Str) (ns : List Str) (xs es : List D) (r : R D) : SR := r.s fun d τ1 => .nx (τ1.set i (some (.obj true c ns (putL f (.lst true (es ++ [d])) ns xs))))
def appFL (i : Nat) (c f : Str) (ns : List Str) (xs : List D) (o : Option D) (r : R D) : SR := match o with
  | some (.lst true es) => if es.length < 1000000 then appF2 i c f ns xs es r else .bad
  | _ => .bad
def appF1 (i : Nat) (c f : Str) (o : Option D) (r : R D) : SR := match o with
  | some (.obj true c' ns xs) => if c' = c then appFL i c f ns xs (lookD f ns xs) r else .bad
  | _ => .bad
def sAppF (i : Nat) (c f : Str) (m : ME) : MS := fun τ => appF1 i c f (τ.getD i none) (m (τ.set i none))
theorem slen {K : PySem.W.Frag} {F H : Hp} {σ : L2.St} {τ : Env} {vs : List V} {ds : List D} (s : StT K B F H σ τ vs ds) : σ.length = τ.length := by
  obtain ⟨_, _, A, _⟩ := s; exact A.length
theorem s_appF {i : Nat} {o e : Expr} {c f : Str} {fp apos cpos pos : Pos} {m : ME} (cl : Cls X.K (B.ca c)) (na : NoAttr X.K (B.ca c) f) (ho : PE X o (tVar i)) (he : PE X e (rdE X.K B W m))
    (hb : attributeBase o f X.env (eval o X.env) = eval o X.env := by rfl)
    (hbase : attributeBase (.Attribute o f fp) "append" X.env (eval (.Attribute o f fp) X.env) = eval (.Attribute o f fp) X.env := by rfl)
    (hfew : ((backTo cpos (starEach [e] X.env)).all (fun x => !x.1) && (backToKw cpos (keywordEach [] X.env)).all (fun x => x.1.isSome)
      && decide ([e].length + ([] : List Keyword).length + (if ([] : List Keyword).isEmpty then 0 else 1) < 30)) = true := by rfl)
    (hline : (apos.endLine == cpos.line) = true := by rfl) (hs : starEach [e] X.env = (false, eval e X.env) :: starEach [] X.env := by rfl) (hplain : (backTo cpos (starEach [] X.env)).any (·.1) = false := by rfl)
    (hsw : swapsWith (.Call (.Attribute (.Attribute o f fp) "append" apos) [e] [] cpos) none pos.line X.env = pure false := by rfl) : PS X (.Expr (.Call (.Attribute (.Attribute o f fp) "append" apos) [e] [] cpos) pos) (rdS X.K B W (sAppF i c f m)) :=
  PS.imp (ps_expr (pe_bm PySem.F.plainAttrs_list PySem.F.slot_list_append PySem.F.type_list_append mt_append (pe_fld ho hb) (pa_cons he pa_nil hs) hbase hfew hline hs hplain) hsw) fun D σ H ⟨F, τ, vs, ds, s, p⟩ => by
    unfold sAppF appF1 at p
    split at p
    · rename_i c' ns xs e0
      by_cases hc : c' = c
      · rw [if_pos hc] at p
        subst hc
        unfold appFL at p
        split at p
        · rename_i es l
          by_cases hl : es.length < 1000000
          · rw [if_pos hl] at p
            unfold appF2 at p
            obtain ⟨a, dx, ws, w, k1, k2, k3, k4, s1⟩ := s.fieldOut (getD_some e0) l
            obtain ⟨g, a', us, g', rfl, h2, h3, _⟩ := s1.top
            refine ⟨.ref a, k1, a, _, dx, _, .ref a', rfl, k2, cl, na, k4, .inl ⟨rfl, us, sqOf h2⟩, F, _, _, _, s1, post_imp (post_s (σ := σ) p) (fun d τ1 q y F1 H1 s2 => ?_) fun c τ1 q F1 H1 s2 => q F1 H1 s2.pop.pop⟩
            have s3 := StT.swap (us := [y]) (es := [d]) s2 rfl
            obtain ⟨f, a2, us', g, ea, hx, hg, _⟩ := s3.top
            cases ea
            refine ⟨a', us', y, rfl, rfl, hx, by rw [hg.length, sizeLine_eq]; omega, ?_⟩
            have s4 := s3.change (us := [y]) (ds := [d]) (ys := us' ++ [y]) (es2 := es ++ [d]) rfl hx fun g1 g2 r1 r2 => ⟨_, r1.append r2, fun b => Nat.le_refl _⟩
            have s5 := s4.fieldIn (i := i) l k1 (by rw [← slen s4]; exact (List.getElem?_eq_some_iff.mp k1).1)
            exact q σ F1 _ s5
          · rw [if_neg hl] at p; exact p.elim
        · exact p.elim
      · rw [if_neg hc] at p; exact p.elim
    · exact p.elim
def setF3 (i : Nat) (c f : Str) (ns : List Str) (xs : List D) (o : Option (List D)) (τ : Env) : SR := match o with
  | some es' => .nx (τ.set i (some (.obj true c ns (putL f (.lst true es') ns xs))))
  | none => .bad
def setF2 (i : Nat) (c f : Str) (ns : List Str) (xs es : List D) (k : Option D) (d : D) (τ : Env) : SR := match k with
  | some (.int k) => setF3 i c f ns xs (setD es k d) τ
  | _ => .bad
def setFL (i : Nat) (c f : Str) (ns : List Str) (xs : List D) (o : Option D) (k : Option D) (d : D) (τ : Env) : SR := match o with
  | some (.lst true es) => setF2 i c f ns xs es k d τ
  | _ => .bad
def setF1 (i : Nat) (c f : Str) (o : Option D) (k : Option D) (d : D) (τ : Env) : SR := match o with
  | some (.obj true c' ns xs) => if c' = c then setFL i c f ns xs (lookD f ns xs) k d τ else .bad
  | _ => .bad
def sSetIxF (i : Nat) (c f : Str) (mi : MZ) (m : ME) : MS := fun τ => (m τ).s fun d τ1 => setF1 i c f (τ1.getD i none) (mi τ1) d τ1
def putFld (f : Str) (d : D) (c : Str) (ns : List Str) (xs : List D) : D := if ns.contains f = true then .obj true c ns (putL f d ns xs) else .obj true c (ns ++ [f]) (xs ++ [d])
def fldS (i : Nat) (c f : Str) (o : Option D) (d : D) (τ : Env) : SR := match o with
  | some (.obj true c' ns xs) => if c' = c ∧ ns.length < 999 then .nx (τ.set i (some (putFld f d c ns xs))) else .bad
  | _ => .bad
def sSetFld (i : Nat) (c f : Str) (m : ME) : MS := fun τ => (m τ).s fun d τ1 => fldS i c f (τ1.getD i none) d τ1
theorem zip_putF {f : Str} {v : V} : ∀ {ns : List Str} {ws : List V}, ns.length = ws.length → ns.contains f = true → ∃ us, putF f v (ns.zip ws) = ns.zip us ∧ us.length = ws.length ∧ ∀ {K : PySem.W.Frag} {ca : Str → Addr} {F H : Hp} {xs : List D} {g g1 : Ct} {d : D}, RepOs K ca F H xs ws g → RepO K ca F H d v g1 → ∃ g2, RepOs K ca F H (putL f d ns xs) us g2 ∧ ∀ b, g2 b ≤ g b + g1 b
  | [], ws, _, h => by cases h
  | n :: ns, [], hl, _ => by cases hl
  | n :: ns, w :: ws, hl, h => by
    by_cases q : n = f
    · refine ⟨v :: ws, ?_, rfl, fun {K ca F H xs g g1 d} h1 h2 => ?_⟩
      · show (if n = f then (n, v) :: ns.zip ws else (n, w) :: putF f v (ns.zip ws)) = _
        rw [if_pos q]; rfl
      · cases xs with
        | nil => cases h1.1
        | cons x xs =>
          obtain ⟨_, _, f1, f2, e, _, k2, k3⟩ := h1
          cases e
          refine ⟨fun b => g1 b + f2 b, ?_, fun b => by show g1 b + f2 b ≤ g b + g1 b; rw [k3]; omega⟩
          show RepOs K ca F H (if f = n then d :: xs else x :: putL f d ns xs) (v :: ws) _
          rw [if_pos q.symm]
          exact ⟨v, ws, g1, f2, rfl, h2, k2, fun _ => rfl⟩
    · have h' : ns.contains f = true := by
        rw [List.contains_cons] at h
        have : (f == n) = false := by simpa using fun z : f = n => q z.symm
        rw [this] at h; simpa using h
      obtain ⟨us, e1, e2, e3⟩ := zip_putF (v := v) (ns := ns) (ws := ws) (by simpa using hl) h'
      refine ⟨w :: us, ?_, by simp [e2], fun {K ca F H xs g g1 d} h1 h2 => ?_⟩
      · show (if n = f then (n, v) :: ns.zip ws else (n, w) :: putF f v (ns.zip ws)) = _
        rw [if_neg q, e1]; rfl
      · cases xs with
        | nil => cases h1.1
        | cons x xs =>
          obtain ⟨_, _, f1, f2, e, k1, k2, k3⟩ := h1
          cases e
          obtain ⟨g2, q1, q2⟩ := e3 k2 h2
          refine ⟨fun b => f1 b + g2 b, ?_, fun b => by show f1 b + g2 b ≤ g b + g1 b; have := q2 b; rw [k3]; omega⟩
          show RepOs K ca F H (if f = n then d :: xs else x :: putL f d ns xs) (w :: us) _
          rw [if_neg (fun z => q z.symm)]
          exact ⟨w, us, f1, g2, rfl, k1, q1, fun _ => rfl⟩
theorem zip_keys {ns : List Str} {ws : List V} (hl : ns.length = ws.length) : (ns.zip ws).map (·.1) = ns := by
  rw [List.map_fst_zip]; omega
theorem s_setFld {i : Nat} {o e : Expr} {c f : Str} {pos pos' : Pos} {m : ME} (cl : Cls X.K (B.ca c)) (na : NoAttr X.K (B.ca c) f) (ho : PE X o (tVar i)) (he : PE X e (rdE X.K B W m)) (hs : swapsWith e (some (.Attribute o f pos')) pos.line X.env = pure false := by rfl) :
    PS X (.Assign [.Attribute o f pos'] e pos) (rdS X.K B W (sSetFld i c f m)) := PS.imp (ps_fld ho he hs) fun D' σ H ⟨F, τ, vs, ds, s, p⟩ => by
  refine ⟨F, τ, vs, ds, s, post_imp (post_s (σ := σ) p) (fun d τ1 q y F1 H1 s1 => ?_) fun _ _ q => q⟩
  replace q : postS X.K B W vs ds D' (fldS i c f (τ1.getD i none) d τ1) := q
  unfold fldS at q
  split at q
  · rename_i c' ns xs e0
    by_cases hc : c' = c ∧ ns.length < 999
    · rw [if_pos hc] at q
      obtain ⟨hc, hn⟩ := hc
      subst hc
      obtain ⟨v, k1, s2⟩ := s1.take (getD_some e0)
      obtain ⟨f1, f2, A, ⟨_, _, g1, g2, e2, h, ⟨_, _, g3, g4, e3, hy, b, q'⟩, qq⟩, wd, io⟩ := s2
      cases e2
      cases e3
      obtain ⟨a, dx, fs, ws, g, rfl, hx, rfl, hl, h5, h6⟩ := h
      have one := wd.nd a
      have tot : ∀ b, f1 b + f2 b = f1 b + (((if b = a then 1 else 0) + g b) + (g3 b + g4 b)) := fun b => by rw [qq, h6, q']
      have za : f1 a = 0 ∧ g a = 0 ∧ g3 a = 0 ∧ g4 a = 0 := by
        have := tot a
        rw [if_pos rfl] at this
        omega
      refine ⟨.ref a, k1, a, _, dx, _, rfl, hx, cl, na, by rw [List.length_zip]; omega, ?_⟩
      obtain ⟨ns2, us, xs2, g5, e5, e6, e7, r5, le5⟩ : ∃ (ns2 : List Str) (us : List V) (xs2 : List D) (g5 : Ct), putF f y (ns.zip ws) = ns2.zip us ∧ ns2.length = us.length ∧ putFld f d c' ns xs = .obj true c' ns2 xs2 ∧ RepOs X.K B.ca F1 H1 xs2 us g5 ∧ ∀ b, g5 b ≤ g b + g3 b := by
        unfold putFld
        by_cases hf : ns.contains f = true
        · obtain ⟨us, e5, e6, e7⟩ := zip_putF (v := y) hl hf
          obtain ⟨g5, r5, le5⟩ := e7 h5 hy
          exact ⟨ns, us, _, g5, e5, by omega, if_pos hf, r5, le5⟩
        · refine ⟨ns ++ [f], ws ++ [y], _, fun b => g b + g3 b, ?_, by simp [hl], if_neg hf, h5.append (show RepOs X.K B.ca F1 H1 [d] [y] g3 from ⟨y, [], g3, fun _ => 0, rfl, hy, ⟨rfl, fun _ => rfl⟩, fun b => (Nat.add_zero _).symm⟩), fun b => Nat.le_refl _⟩
          rw [putF_new f y (ns.zip ws) (by rw [zip_keys hl]; simpa using hf), List.zip_append hl]
          rfl
      have off : ∀ {φ : Ct}, φ a = 0 → ∀ x, 0 < φ x → upd H1 a (.ins (B.ca c') dx (putF f y (ns.zip ws))) x = H1 x := fun {φ} hz x hx => upd_ne fun e => by rw [e, hz] at hx; omega
      have zg : g5 a = 0 := by have := le5 a; omega
      have fa : F1 a = none := wd.dF a (by have := tot a; rw [if_pos rfl] at this; show 0 < f1 a + f2 a; omega)
      have ra : B.R a = none := wd.dR a (by have := tot a; rw [if_pos rfl] at this; show 0 < f1 a + f2 a; omega)
      have s3 : StT X.K B F1 (upd H1 a (.ins (B.ca c') dx (putF f y (ns.zip ws)))) σ (τ1.set i none) (.ref a :: vs) (putFld f d c' ns xs :: ds) := by
        rw [e7]
        refine ⟨f1, fun b => ((if b = a then 1 else 0) + g5 b) + g4 b, A.mono (Same.refl _) (off za.1), ⟨.ref a, vs, fun b => (if b = a then 1 else 0) + g5 b, g4, rfl, ⟨a, dx, _, us, g5, rfl, upd_same, e5, e6, RepOs.mono (Same.refl _) _ _ _ (off zg) r5, fun _ => rfl⟩, RepOs.mono (Same.refl _) _ _ _ (off za.2.2.2) b, fun _ => rfl⟩, ?_, io⟩
        have w2 : Wd B F1 H1 (fun b => f1 b + (((if b = a then 1 else 0) + g5 b) + g4 b)) := wd.less fun b => by
          show f1 b + (((if b = a then 1 else 0) + g5 b) + g4 b) ≤ f1 b + f2 b
          have := tot b; have := le5 b; omega
        exact ⟨w2.nd, w2.dF, w2.dR, fun b x e => by rw [upd_ne (ne_of_none e fa)]; exact wd.sF b x e, fun b x e => by rw [upd_ne (ne_of_none e ra)]; exact wd.sR b x e, wd.s0, wd.fr⟩
      have s4 := s3.putBack (i := i) (by rw [← slen s3]; exact (List.getElem?_eq_some_iff.mp k1).1) k1
      rw [List.set_set] at s4
      exact q σ F1 _ s4
    · rw [if_neg hc] at q; exact q.elim
  · exact q.elim
end
section
variable {P : Program} {w : World} {K : PySem.W.Frag} {mg : Str → Option Value} {base : Heap} {ca : Str → Addr}
structure MkI (P : Program) (w : World) (K : PySem.W.Frag) (mg : Str → Option Value) (base : Heap) (ca : Str → Addr) (j : Nat) (x : Str) (g : List D → CR2) : Prop where
  ex : ∃ k f fd ps, k + 1 ≤ j ∧ Mk K (ca x) f ∧ mg x = some (.ref (ca x)) ∧ Binds K fd ps [] ∧ FnOk P w K mg base (L2.CX P w) k f fd ps (spIO K ca 1 g)
structure MFoI (P : Program) (w : World) (K : PySem.W.Frag) (mg : Str → Option Value) (base : Heap) (ca : Str → Addr) (j : Nat) (c m : Str) (g : List D → CR2) : Prop where
  ex : ∃ k f fd ps, k ≤ j ∧ Meth K (ca c) m f ∧ Binds K fd ps [] ∧ FnOk P w K mg base (L2.CX P w) k f fd ps (spIO K ca 1 g)
  cl : Cls K (ca c)
end
def mkI (r : CR2) (τ : Env) : R D := match r with
  | .ok .non [o] => .ok o τ
  | _ => .bad
def eMakeI (c : Str) (g : List D → CR2) (m : MA) : ME := fun τ => (m τ).bind fun ds τ1 => mkI (g (.obj true c [] [] :: freezeL ds)) τ1
def methI2 (r : CR2) (i : Nat) (τ : Env) : R D := match r with
  | .ok d [o] => .ok d (τ.set i (some o))
  | _ => .bad
def methI1 (o : Option D) (g : List D → CR2) (i : Nat) (ds : List D) (τ : Env) : R D := match o with
  | some d => methI2 (g (d :: freezeL ds)) i (τ.set i none)
  | none => .bad
def methOk (c m : Str) (o : Option D) : Bool := match o with
  | some (.obj true c' ns _) => decide (c' = c) && !ns.contains m
  | _ => false
def eMethI (c m : Str) (g : List D → CR2) (i : Nat) (ma : MA) : ME := fun τ => if methOk c m (τ.getD i none) = true then (ma τ).bind fun ds τ1 => methI1 (τ1.getD i none) g i ds τ1 else .bad
section
variable {X : Cx} {B : Bx} {W : WX}
theorem mkI_ok {r : CR2} {τ : Env} {y : D → Env → Prop} {x : Str → Env → Prop} (h : post y x (mkI r τ)) : ∃ o, r = .ok .non [o] ∧ y o τ := by
  unfold mkI at h
  split at h
  · rename_i o; exact ⟨o, rfl, h⟩
  · exact h.elim
theorem make_sp {c : Str} {g : List D → CR2} {F H : Hp} {σ : L2.St} {τ : Env} {vs us : List V} {ds es : List D} {Q : VK} {E : XK} (s : StT X.K B F H σ τ vs ds) (rl : RepL X.K B.ca F es us) (p : post (fun d τ' => ∀ v F' H', StT X.K B F' H' σ τ' (v :: vs) (d :: ds) → Q v H') (exW X.K B W σ vs ds) (mkI (g (.obj true c [] [] :: es)) τ)) :
    ∀ x dx, H x = none → H dx = none → dx ≠ x → spIO X.K B.ca 1 g (.ref x :: us) (upd (upd H dx (.own x)) x (.ins (B.ca c) dx [])) (fun v H2 => v = .non ∧ Q (.ref x) H2) E := by
  intro x dx nx ndx ne
  obtain ⟨o, eg, q⟩ := mkI_ok p
  have s1 := s.grown (same_upd (o := .own x) ndx)
  have hx : upd H dx (.own x) x = none := by rw [upd_ne (Ne.symm ne)]; exact nx
  -- the new object on top
  have s2 : StT X.K B F (upd (upd H dx (.own x)) x (.ins (B.ca c) dx [])) σ τ (.ref x :: vs) (.obj true c [] [] :: ds) := by
    obtain ⟨f1, f2, A, b, wd, io⟩ := s1
    have z : f1 x + f2 x = 0 := by
      have h1 : ¬ 0 < f1 x := fun h => A.there x h hx
      have h2 : ¬ 0 < f2 x := fun h => b.there _ _ _ x h hx
      omega
    have off : ∀ {φ : Ct}, φ x = 0 → ∀ a, 0 < φ a → upd (upd H dx (.own x)) x (.ins (B.ca c) dx []) a = upd H dx (.own x) a := fun {φ} hz a ha => upd_ne fun e => by rw [e, hz] at ha; omega
    refine ⟨f1, fun b => (if b = x then 1 else 0) + f2 b, A.mono (Same.refl _) (off (by omega)), ⟨.ref x, vs, fun b => if b = x then 1 else 0, f2, rfl, ⟨x, dx, [], [], fun _ => 0, rfl, upd_same, rfl, rfl, ⟨rfl, fun _ => rfl⟩, fun b => (Nat.add_zero _).symm⟩, RepOs.mono (Same.refl _) _ _ _ (off (by omega)) b, fun _ => rfl⟩, ?_, io⟩
    have e : (fun b => f1 b + ((if b = x then 1 else 0) + f2 b)) = fun b => (if b = x then 1 else 0) + (f1 b + f2 b) := funext fun b => by omega
    rw [e]
    exact wd.owned hx z
  obtain ⟨f0, r0, n0, d0, fin⟩ := StT.calledIO (vals := [.ref x]) (ios := [.obj true c [] []]) rfl s2
  refine ⟨F, f0, [.obj true c [] []], es, [.ref x], us, rfl, rfl, r0, rl, s2.same, n0, d0, ?_⟩
  show match g ([.obj true c [] []] ++ es) with | .ok d outs => _ | .bad => False
  rw [List.singleton_append, eg]
  intro v F' H' g' a1 a2 a3 a4 a5 a6 a7
  have s3 := fin F' H' v .non [o] g' a1 a2 a3 a4 a5 a6 a7
  refine ⟨s3.topF rfl, q _ F' H' s3.pop⟩
theorem e_makeI0 {x : Str} {p pos : Pos} {g : List D → CR2} {k j : Nat} (c : XOk X W) (G : MkI X.prog X.w X.K X.mg X.base B.ca k x g) (hr : Room j X.A) (hg : Gl X x) (hk : k ≤ j := by decide) (hdb : (x == ("__debug__" : Str)) = false := by decide) : PE X (.Call (.Name x p) [] [] pos) (rdE X.K B W (eMakeI x g aNil)) := by
  obtain ⟨k', f, fd, ps, hk', M, hm, hb, F⟩ := G.ex
  refine PE.imp (pe_make0 M F (hr.mono (Nat.le_trans hk' hk)) hg hm hb .nil passL hdb) fun σ H Q h => ?_
  obtain ⟨F, τ, vs, ds, s, p⟩ := h
  exact make_sp (W := W) (es := []) (us := []) s rfl p
theorem methOk_ok {c m : Str} {o : Option D} (h : methOk c m o = true) : ∃ ns xs, o = some (.obj true c ns xs) ∧ ns.contains m = false := by
  unfold methOk at h
  split at h
  · rename_i c' ns xs
    rw [Bool.and_eq_true] at h
    have h1 : c' = c := by simpa using h.1
    subst h1
    exact ⟨ns, xs, rfl, by simpa using h.2⟩
  · cases h
def lendR0 (r : CR) (τ : Env) : R D := match r with
  | .ok d => if clean d = true then .ok d τ else .bad
  | _ => .bad
def mz0B (o : Option (List D → CR)) (m : Str) (b : Bool) (c : Str) (ns : List Str) (xs : List D) (τ : Env) : R D := match o with
  | some g => if ns.contains m = true then .bad else lendR0 (g (freezeL [.obj b c ns xs])) τ
  | none => .bad
def mz0A (As : List (Str × (List D → CR))) (m : Str) (o : Option D) (τ : Env) : R D := match o with
  | some (.obj b c ns xs) => mz0B (As.lookup c) m b c ns xs τ
  | _ => .bad
def eMethZ0 (As : List (Str × (List D → CR))) (m : Str) (i : Nat) : ME := fun τ => mz0A As m (τ.getD i none) τ
theorem lend_sp0 {g : List D → CR} {F H : Hp} {σ : L2.St} {τ : Env} {vs us : List V} {ds es : List D} {f : Ct} {Q : VK} {E : XK} (s : StT X.K B F H σ τ vs ds) (r : RepOs X.K B.ca F H es us f)
    (p : post (fun d τ' => ∀ v F' H', StT X.K B F' H' σ τ' (v :: vs) (d :: ds) → Q v H') (exW X.K B W σ vs ds) (lendR0 (g (freezeL es)) τ)) : spP X.K B.ca g us H Q E := by
  refine ⟨lend F H f, freezeL es, lend_sub s.same f, lend_rep s r, ?_⟩
  unfold lendR0 at p
  cases eg : g (freezeL es) with
  | ok d =>
    rw [eg] at p
    by_cases hc : clean d = true
    · replace p : post _ _ (if clean d = true then R.ok d τ else R.bad) := p
      rw [if_pos hc] at p
      intro v F' H' f' k1 k2 k3 k4 k5 k6 k7
      obtain ⟨F2, s2⟩ := s.lent r k1 k2 k3 k4 k5 k6 k7 hc
      exact p v F2 H' s2
    · replace p : post _ _ (if clean d = true then R.ok d τ else R.bad) := p
      rw [if_neg hc] at p; exact p.elim
  | ex c => rw [eg] at p; exact p.elim
  | bad => rw [eg] at p; exact p.elim
theorem e_methZ0 {m : Str} {o : Expr} {apos pos : Pos} {As : List (Str × (List D → CR))} {i k j : Nat} {pl : Sem Bool} (c : XOk X W) (hAs : MAll X.prog X.w X.K X.mg X.base B.ca k m As) (hr : Room j X.A) (ho : PE X o (tVar i)) (hk : k ≤ j := by decide)
    (ht : eval (.Call (.Attribute o m apos) [] [] pos) X.env = (do
      let ov ← eval o X.env
      standAt apos.atName
      let (f, first) ← holding [ov] (getMethod ov m pl)
      callWith pos f first (backTo pos (starEach [] X.env)) (backToKw pos (keywordEach [] X.env))) := by rfl) :
    PE X (.Call (.Attribute o m apos) [] [] pos) (rdE X.K B W (eMethZ0 As m i)) := by
  refine ⟨fun pins s σ H Q I h => ?_⟩
  obtain ⟨F', τ, vs, ds, st, p⟩ := h
  unfold eMethZ0 mz0A at p
  split at p
  · rename_i b cc ns xs e0
    unfold mz0B at p
    split at p
    · rename_i g eg
      by_cases nc : ns.contains m = true
      · rw [if_pos nc] at p; exact p.elim
      · rw [if_neg nc] at p
        obtain ⟨⟨k', f, fd, ps, hk', hm, hb, G⟩, cl⟩ := hAs.get eg
        refine (pe_meth0 (E := E0) (pl := pl) ho cl hm G (hr.mono (Nat.le_trans hk' hk)) hb .nil passL ht).run pins s σ H Q I ?_
        obtain ⟨v, f', k1, r⟩ := st.get (getD_some e0)
        have hx : ∃ a dx ws, v = .ref a ∧ H a = some (.ins (B.ca cc) dx (ns.zip ws)) := by
          cases b with
          | true => obtain ⟨a, dx, fs, ws, g', rfl, hx, rfl, _⟩ := r; exact ⟨a, dx, ws, rfl, hx⟩
          | false => obtain ⟨⟨a, dx, fs, ws, rfl, hx, rfl, _⟩, _⟩ := r; exact ⟨a, dx, ws, rfl, st.same _ _ hx⟩
        obtain ⟨a, dx, ws, rfl, hx⟩ := hx
        refine ⟨.ref a, k1, a, dx, _, rfl, hx, lookup_zip_none (by simpa using nc), ?_⟩
        exact lend_sp0 (W := W) (us := [.ref a]) st (show RepOs X.K B.ca F' H [.obj b cc ns xs] [.ref a] f' from ⟨_, [], f', fun _ => 0, rfl, r, ⟨rfl, fun _ => rfl⟩, fun b => (Nat.add_zero _).symm⟩) p
    · exact p.elim
  · exact p.elim
def m0C (r : CR) (i : Nat) (τ : Env) : R D := match r with
  | .ok d => .ok d (τ.set i none)
  | _ => .bad
def m0B (o : Option (List D → CR)) (m : Str) (b : Bool) (c : Str) (ns : List Str) (xs : List D) (i : Nat) (τ : Env) : R D := match o with
  | some g => if ns.contains m = true then .bad else m0C (g [freeze (.obj b c ns xs)]) i τ
  | none => .bad
def m0A (As : List (Str × (List D → CR))) (m : Str) (o : Option D) (i : Nat) (τ : Env) : R D := match o with
  | some (.obj b c ns xs) => m0B (As.lookup c) m b c ns xs i τ
  | _ => .bad
def eMeth0 (As : List (Str × (List D → CR))) (m : Str) (i : Nat) : ME := fun τ => m0A As m (τ.getD i none) i τ
def e2Z (g : D → D → Option D) (m : ME) (n : MZ) : ME := fun τ => (m τ).bind fun a τ1 => ofO ((n τ1).bind fun b => g a b) τ1
end
section
variable {X : Cx} {B : Bx} {W : WX}
end
section
variable {X : Cx} {B : Bx} {W : WX}
end
section
variable {K : PySem.W.Frag} {ca : Str → Addr} {F H : Hp}
end
section
variable {K : PySem.W.Frag} {B : Bx} {F H : Hp} {σ : L2.St} {τ : Env} {vs us : List V} {ds es : List D} {v : V} {d : D}
end
section
variable {X : Cx} {B : Bx} {W : WX}
end
end Bn
namespace Bn
open PySem PySem.Spec PyProof.Rows L2
section
variable {K : PySem.W.Frag} {B : Bx} {F H : Hp} {σ : L2.St} {τ : Env} {vs : List V} {ds : List D} {v : V} {d : D}
end
section
variable {X : Cx} {B : Bx} {W : WX}
end
section
variable {X : Cx} {B : Bx} {W : WX}
end
end Bn
namespace Bn
open PySem PySem.Spec PyProof.Rows L2
section
variable {X : Cx}
end
section
variable {X : Cx} {B : Bx} {W : WX}
end
end Bn
namespace Bn
open PySem PySem.Spec PyProof.Rows L2
section
variable {K : PySem.W.Frag} {B : Bx} {F H : Hp} {σ : L2.St} {τ : Env} {vs us : List V} {ds es : List D} {v y : V} {d : D}
end
section
variable {X : Cx} {B : Bx} {W : WX}
end
section
variable {K : PySem.W.Frag} {B : Bx} {F H : Hp} {σ : L2.St} {τ : Env} {vs : List V} {ds : List D} {y : V} {d : D}
end
section
variable {X : Cx} {B : Bx} {W : WX}
end
end Bn
namespace Bn
open PySem PySem.Spec PyProof.Rows L2
section
variable {X : Cx} {B : Bx} {W : WX}
end
end Bn
namespace Bn
open PySem L2
theorem vAdd (i j : Int) : gAdd (.int i) (.int j) = some (.int (i + j)) := rfl
theorem vSub (i j : Int) : gSub (.int i) (.int j) = some (.int (i - j)) := rfl
theorem vMul {i j : Int} (h : CMulW i j) : gMul (.int i) (.int j) = some (.int (i * j)) := if_pos h
theorem vDiv {i j : Int} (h0 : 0 < j) (h : j.natAbs.log2 < 9000) : gDiv (.int i) (.int j) = some (.int (i / j)) := if_pos ⟨h0, h⟩
theorem vMod {i j : Int} (h : 0 < j) : gMod (.int i) (.int j) = some (.int (i % j)) := if_pos h
theorem vPow {i j : Int} (h : CPow i j) : gPow (.int i) (.int j) = some (.int (i ^ j.toNat)) := if_pos h
theorem vLt (i j : Int) : gLt (.int i) (.int j) = some (.bl (decide (i < j))) := rfl
theorem vLe (i j : Int) : gLe (.int i) (.int j) = some (.bl (decide (i ≤ j))) := rfl
theorem vGt (i j : Int) : gGt (.int i) (.int j) = some (.bl (decide (j < i))) := rfl
theorem vGe (i j : Int) : gGe (.int i) (.int j) = some (.bl (decide (j ≤ i))) := rfl
theorem vNeg (i : Int) : gNeg (.int i) = some (.int (-i)) := rfl
theorem vEq (i j : Int) : gEq (.int i) (.int j) = some (.bl (i == j)) := rfl
theorem vNe (i j : Int) : gNe (.int i) (.int j) = some (.bl (!(i == j))) := rfl
theorem vEq2 (a b c d : Int) : gEq (.tup [.int a, .int b]) (.tup [.int c, .int d]) = some (.bl ((a == c) && ((b == d) && true))) := rfl
theorem vNe2 (a b c d : Int) : gNe (.tup [.int a, .int b]) (.tup [.int c, .int d]) = some (.bl (!((a == c) && ((b == d) && true)))) := rfl
theorem vIx0 (xs : List D) (d : D) : gIx (.tup (d :: xs)) (.int 0) = some d := by
  show atI (d :: xs) 0 = some d
  unfold atI ixN
  rw [if_pos (by decide), if_pos (by simp)]
  rfl
theorem atI_of {α : Type} {xs : List α} {k : Nat} {i : Int} (e : i = (k : Int)) : atI xs i = xs[k]? := by
  subst e
  unfold atI ixN
  rw [if_pos (by omega)]
  by_cases h : (k : Int) < xs.length
  · rw [if_pos h]; simp
  · rw [if_neg h]
    rw [List.getElem?_eq_none (by omega)]; rfl
theorem vIxL (m : Bool) (xs : List D) (k : Nat) : gIx (.lst m xs) (.int k) = xs[k]? := atI_of rfl
theorem vIxT (xs : List D) (k : Nat) : gIx (.tup xs) (.int k) = xs[k]? := atI_of rfl
theorem vLenL (m : Bool) (xs : List D) : gLen [.lst m xs] = some (.int xs.length) := rfl
theorem vLenC (xs : List D) : gLen [.cst xs] = some (.int xs.length) := rfl
theorem vLenT (xs : List D) : gLen [.tup xs] = some (.int xs.length) := rfl
theorem log2_le {n m : Nat} (h : n < 2 ^ m) : n.log2 ≤ m := by
  by_cases z : n = 0
  · subst z; simp
  · have := (Nat.log2_lt z).mpr h
    omega
theorem mulW {i j : Int} (a b : Nat) (h1 : i.natAbs < 2 ^ a) (h2 : j.natAbs < 2 ^ b) (h : a + b < 1000000) : CMulW i j := by
  have := log2_le h1
  have := log2_le h2
  unfold CMulW
  omega
theorem vIx1 (xs : List D) (d e : D) : gIx (.tup (d :: e :: xs)) (.int 1) = some e := vIxT (d :: e :: xs) 1
section
variable {α β : Type} {τ τ' : Env} {d : D} {ds : List D} {c : Str} {x : Bool} {i : Nat}
def seqR (r : SR) (b : MS) : SR := match r with
  | .nx τ' => b τ' | .rt d τ' => .rt d τ' | .bk τ' => .bk τ' | .ct τ' => .ct τ' | .ex c τ' => .ex c τ' | .bad => .bad
theorem x_seq {a b : MS} : sSeq a b τ = seqR (a τ) b := rfl
theorem x_seq1 {b : MS} : seqR (.nx τ) b = b τ := rfl
theorem x_seq2 {b : MS} : seqR (.rt d τ) b = .rt d τ := rfl
theorem x_seq3 {b : MS} : seqR (.bk τ) b = .bk τ := rfl
theorem x_seq4 {b : MS} : seqR (.ct τ) b = .ct τ := rfl
theorem x_seq5 {b : MS} : seqR (.ex c τ) b = .ex c τ := rfl
theorem x_seq6 {b : MS} : seqR .bad b = .bad := rfl
theorem x_nil : sNil τ = .nx τ := rfl
def ifS (r : R Bool) (a b : MS) : SR := r.s fun x τ1 => if x = true then a τ1 else b τ1
theorem x_if {t : MT} {a b : MS} : sIf t a b τ = ifS (t τ) a b := rfl
theorem x_if1 {a b : MS} : ifS (.ok x τ) a b = if x = true then a τ else b τ := rfl
theorem x_if2 {a b : MS} : ifS (.ex c τ) a b = .ex c τ := rfl
theorem x_if3 {a b : MS} : ifS .bad a b = .bad := rfl
def retS (r : R D) : SR := r.s fun d τ1 => .rt d τ1
theorem x_ret {m : ME} : sRet m τ = retS (m τ) := rfl
theorem x_ret1 : retS (.ok d τ) = .rt d τ := rfl
theorem x_ret2 : retS (.ex c τ) = .ex c τ := rfl
theorem x_ret3 : retS .bad = .bad := rfl
theorem x_retN : sRetN τ = .rt .non τ := rfl
def asgG (o : Option Env) : SR := match o with
  | some τ2 => .nx τ2 | none => .bad
def asgS (r : R D) (g : D → Env → Option Env) : SR := r.s fun d τ1 => asgG (g d τ1)
theorem x_asg {m : ME} {g : D → Env → Option Env} : sAsg m g τ = asgS (m τ) g := rfl
theorem x_asg1 {g : D → Env → Option Env} : asgS (.ok d τ) g = asgG (g d τ) := rfl
theorem x_asg2 {g : D → Env → Option Env} : asgS (.ex c τ) g = .ex c τ := rfl
theorem x_asg3 {g : D → Env → Option Env} : asgS .bad g = .bad := rfl
theorem x_asg4 : asgG (some τ) = .nx τ := rfl
theorem x_asg5 : asgG none = .bad := rfl
theorem x_gN : gN i d τ = some (τ.set i (some d)) := rfl
def dropS (r : R D) : SR := r.s fun _ τ1 => .nx τ1
theorem x_drop {m : ME} : sDrop m τ = dropS (m τ) := rfl
theorem x_drop1 : dropS (.ok d τ) = .nx τ := rfl
theorem x_drop2 : dropS (.ex c τ) = .ex c τ := rfl
theorem x_bk : sBk τ = .bk τ := rfl
theorem x_ct : sCt τ = .ct τ := rfl
theorem x_raise : sRaise c τ = .ex c τ := rfl
def tZ' (o : Option D) (τ : Env) : R Bool := match o with
  | some (.bl b) => .ok b τ | _ => .bad
theorem x_tZ {m : MZ} : tZ m τ = tZ' (m τ) τ := rfl
theorem x_tZ1 : tZ' (some (.bl x)) τ = .ok x τ := rfl
theorem x_tZ2 : tZ' none τ = .bad := rfl
def tE' (r : R D) : R Bool := r.bind fun d τ1 => match d with
  | .bl b => .ok b τ1 | _ => .bad
theorem x_tE {m : ME} : tE m τ = tE' (m τ) := rfl
theorem x_tE1 : tE' (.ok (.bl x) τ) = .ok x τ := rfl
theorem x_tE2 : tE' (.ex c τ) = .ex c τ := rfl
theorem x_tE3 : tE' .bad = .bad := rfl
def andT (r : R Bool) (b : MT) : R Bool := r.bind fun x τ1 => if x = true then b τ1 else .ok false τ1
def orT (r : R Bool) (b : MT) : R Bool := r.bind fun x τ1 => if x = true then .ok true τ1 else b τ1
def notT (r : R Bool) : R Bool := r.bind fun x τ1 => .ok (!x) τ1
theorem x_tAnd {a b : MT} : tAnd a b τ = andT (a τ) b := rfl
theorem x_tAnd1 {b : MT} : andT (.ok x τ) b = if x = true then b τ else .ok false τ := rfl
theorem x_tAnd2 {b : MT} : andT (.ex c τ) b = .ex c τ := rfl
theorem x_tAnd3 {b : MT} : andT .bad b = .bad := rfl
theorem x_tOr {a b : MT} : tOr a b τ = orT (a τ) b := rfl
theorem x_tOr1 {b : MT} : orT (.ok x τ) b = if x = true then .ok true τ else b τ := rfl
theorem x_tOr2 {b : MT} : orT (.ex c τ) b = .ex c τ := rfl
theorem x_tOr3 {b : MT} : orT .bad b = .bad := rfl
theorem x_tNot {a : MT} : tNot a τ = notT (a τ) := rfl
theorem x_tNot1 : notT (.ok x τ) = .ok (!x) τ := rfl
theorem x_tNot2 : notT (.ex c τ) = .ex c τ := rfl
theorem x_tNot3 : notT .bad = .bad := rfl
theorem x_tTrue : tTrue τ = .ok true τ := rfl
def z2' (g : D → D → Option D) (a b : Option D) : Option D := a.bind fun a => b.bind fun b => g a b
theorem x_z2 {g : D → D → Option D} {m n : MZ} : z2 g m n τ = z2' g (m τ) (n τ) := rfl
theorem x_z21 {g : D → D → Option D} {a b : D} : z2' g (some a) (some b) = g a b := rfl
def z1' (g : D → Option D) (a : Option D) : Option D := a.bind g
theorem x_z1 {g : D → Option D} {m : MZ} : z1 g m τ = z1' g (m τ) := rfl
theorem x_z11 {g : D → Option D} {a : D} : z1' g (some a) = g a := rfl
def zCb (g : List D → Option D) (a : Option (List D)) : Option D := a.bind g
theorem x_zC {g : List D → Option D} {m : Env → Option (List D)} : zC' g m τ = zCb g (m τ) := rfl
theorem x_zC1 {g : List D → Option D} : zCb g (some ds) = g ds := rfl
def zaC (a : Option D) (b : Option (List D)) : Option (List D) := a.bind fun a => b.bind fun b => some (a :: b)
theorem x_za {m : MZ} {n : Env → Option (List D)} : zaCons m n τ = zaC (m τ) (n τ) := rfl
theorem x_za1 : zaC (some d) (some ds) = some (d :: ds) := rfl
theorem x_za0 : zaNil τ = some [] := rfl
theorem x_zV : zVar i τ = τ.getD i none := rfl
theorem x_zK : zC d τ = some d := rfl
def zCh (g g' : D → D → Option D) (a b : Option D) (c : MZ) (τ : Env) : Option D := a.bind fun x => b.bind fun y => (g x y).bind fun z => match z with
  | .bl true => (c τ).bind fun w => g' y w
  | .bl false => some (.bl false)
  | _ => none
def zCh2 (z : Option D) (g' : D → D → Option D) (y : D) (w : Option D) : Option D := z.bind fun z => match z with
  | .bl true => w.bind fun w => g' y w
  | .bl false => some (.bl false)
  | _ => none
theorem x_ch {g g' : D → D → Option D} {a b e : MZ} : zChain g g' a b e τ = zCh g g' (a τ) (b τ) e τ := rfl
theorem x_ch1 {g g' : D → D → Option D} {a b : D} {e : MZ} : zCh g g' (some a) (some b) e τ = zCh2 (g a b) g' b (e τ) := rfl
theorem x_ch2 {g' : D → D → Option D} {a b : D} : zCh2 (some (.bl x)) g' a (some b) = if x = true then g' a b else some (.bl false) := by cases x <;> rfl
def eZ' (o : Option D) (τ : Env) : R D := match o with
  | some d => if isFz d = true then .ok d τ else .bad
  | none => .bad
theorem x_eZ {m : MZ} : eZ m τ = eZ' (m τ) τ := rfl
theorem x_eZ1 : eZ' (some d) τ = if isFz d = true then .ok d τ else .bad := rfl
theorem x_eZ2 : eZ' none τ = .bad := rfl
def eV' (o : Option D) (i : Nat) (τ : Env) : R D := match o with
  | some d => if isFz d = true then .ok d τ else .ok (freeze d) (τ.set i (some (freeze d)))
  | none => .bad
theorem x_eV : eVar i τ = eV' (τ.getD i none) i τ := rfl
theorem x_eV1 : eV' (some d) i τ = if isFz d = true then .ok d τ else .ok (freeze d) (τ.set i (some (freeze d))) := rfl
def eM' (o : Option D) (i : Nat) (τ : Env) : R D := match o with
  | some d => .ok d (τ.set i none)
  | none => .bad
theorem x_eM : eMv i τ = eM' (τ.getD i none) i τ := rfl
theorem x_eM1 : eM' (some d) i τ = .ok d (τ.set i none) := rfl
theorem x_b1 {a : α} {k : α → Env → R β} : R.bind (.ok a τ) k = k a τ := rfl
theorem x_b2 {k : α → Env → R β} : R.bind (.ex c τ) k = .ex c τ := rfl
theorem x_b3 {k : α → Env → R β} : R.bind .bad k = .bad := rfl
theorem x_s1 {a : α} {k : α → Env → SR} : R.s (.ok a τ) k = k a τ := rfl
theorem x_s2 {k : α → Env → SR} : R.s (.ex c τ) k = .ex c τ := rfl
theorem x_s3 {k : α → Env → SR} : R.s .bad k = .bad := rfl
theorem x_oO : ofO (some d) τ = if isFz d = true then .ok d τ else .bad := rfl
theorem x_oO2 : ofO none τ = .bad := rfl
theorem x_e2 {g : D → D → Option D} {m n : ME} : e2 g m n τ = (m τ).bind fun a τ1 => (n τ1).bind fun b τ2 => ofO (g a b) τ2 := rfl
theorem x_e1 {g : D → Option D} {m : ME} : e1 g m τ = (m τ).bind fun a τ1 => ofO (g a) τ1 := rfl
theorem x_eC {g : List D → Option D} {m : MA} : eC g m τ = (m τ).bind fun a τ1 => ofO (g a) τ1 := rfl
theorem x_aN : aNil τ = .ok [] τ := rfl
theorem x_aC {m : ME} {n : MA} : aCons m n τ = (m τ).bind fun d τ1 => (n τ1).bind fun ds τ2 => .ok (d :: ds) τ2 := rfl
theorem x_tup {m : MA} : eTup m τ = (m τ).bind fun ds τ1 => if ds.length ≤ 1000000 then .ok (.tup (freezeL ds)) τ1 else .bad := rfl
theorem x_lst {m : MA} : eLst m τ = (m τ).bind fun ds τ1 => if ds.length ≤ 1000000 then .ok (.lst true ds) τ1 else .bad := rfl
theorem x_call {g : List D → CR} {m : MA} : eCall g m τ = (m τ).bind fun ds τ1 => ofC (g (freezeL ds)) τ1 := rfl
theorem x_oC1 : ofC (.ok d) τ = .ok d τ := rfl
theorem x_oC2 : ofC (.ex c) τ = .ex c τ := rfl
def c0 (r : CR) (τ : Env) : R D := match r with
  | .ok d => .ok d τ
  | _ => .bad
theorem x_call0 {g : List D → CR} : eCall0 g τ = c0 (g []) τ := rfl
theorem x_call01 : c0 (.ok d) τ = .ok d τ := rfl
def andE (r : R D) (b : ME) : R D := r.bind fun x τ1 => match x with
  | .bl true => b τ1 | .bl false => .ok (.bl false) τ1 | _ => .bad
def orE (r : R D) (b : ME) : R D := r.bind fun x τ1 => match x with
  | .bl false => b τ1 | .bl true => .ok (.bl true) τ1 | _ => .bad
def notE (r : R D) : R D := r.bind fun x τ1 => match x with
  | .bl b => .ok (.bl (!b)) τ1 | _ => .bad
def ifE (r : R Bool) (a b : ME) : R D := r.bind fun x τ1 => if x = true then a τ1 else b τ1
theorem x_eAnd {a b : ME} : eAnd a b τ = andE (a τ) b := rfl
theorem x_eAnd1 {b : ME} : andE (.ok (.bl x) τ) b = if x = true then b τ else .ok (.bl false) τ := by cases x <;> rfl
theorem x_eOr {a b : ME} : eOr a b τ = orE (a τ) b := rfl
theorem x_eOr1 {b : ME} : orE (.ok (.bl x) τ) b = if x = true then .ok (.bl true) τ else b τ := by cases x <;> rfl
theorem x_eNot {a : ME} : eNot a τ = notE (a τ) := rfl
theorem x_eNot1 : notE (.ok (.bl x) τ) = .ok (.bl (!x)) τ := rfl
theorem x_eIf {t : MT} {a b : ME} : eIf t a b τ = ifE (t τ) a b := rfl
theorem x_eIf1 {a b : ME} : ifE (.ok x τ) a b = if x = true then a τ else b τ := rfl
theorem x_fz_int (i : Int) : isFz (.int i) = true := rfl
theorem x_fr_int (i : Int) : freeze (.int i) = .int i := rfl
theorem x_fz_bl (i : Bool) : isFz (.bl i) = true := rfl
theorem x_fr_bl (i : Bool) : freeze (.bl i) = .bl i := rfl
theorem x_fz_str (i : Str) : isFz (.str i) = true := rfl
theorem x_fr_str (i : Str) : freeze (.str i) = .str i := rfl
theorem x_fz_ty (i : String) : isFz (.ty i) = true := rfl
theorem x_fr_ty (i : String) : freeze (.ty i) = .ty i := rfl
theorem x_fz_tup (i : List D) : isFz (.tup i) = true := rfl
theorem x_fr_tup (i : List D) : freeze (.tup i) = .tup i := rfl
theorem x_fz_cst (i : List D) : isFz (.cst i) = true := rfl
theorem x_fr_cst (i : List D) : freeze (.cst i) = .cst i := rfl
theorem x_fz_lst_false (i : List D) : isFz (.lst false i) = true := rfl
theorem x_fr_lst_false (i : List D) : freeze (.lst false i) = .lst false i := rfl
theorem x_fz_non : isFz .non = true := rfl
theorem x_fr_non : freeze .non = .non := rfl
theorem x_fz_lt : isFz (.lst true ds) = false := rfl
theorem x_fr_lt : freeze (.lst true ds) = .lst false (freezeL ds) := rfl
theorem x_fL0 : freezeL [] = [] := rfl
theorem x_fL1 : freezeL (d :: ds) = freeze d :: freezeL ds := rfl
def callR (r : SR) : CR := match r with
  | .nx _ => .ok .non | .rt d _ => .ok d | .ex c _ => .ex c | _ => .bad
theorem x_cF {n N : Nat} {b : MS} : callF n N b ds = if ds.length = n then callR (b (ds.map some ++ List.replicate (N - n) none)) else .bad := rfl
theorem x_cR1 : callR (.nx τ) = .ok .non := rfl
theorem x_cR2 : callR (.rt d τ) = .ok d := rfl
theorem x_cR3 : callR (.ex c τ) = .ex c := rfl
def iL' (d : D) (τ : Env) : R (List D) := match d with
  | .lst _ es => .ok es τ | _ => .bad
def iT' (d : D) (τ : Env) : R (List D) := match d with
  | .tup es => .ok es τ | _ => .bad
def iS' (d : D) (τ : Env) : R (List D) := match d with
  | .str z => .ok (strD z) τ | _ => .bad
def iR1' (d : List D) (τ : Env) : R (List D) := match d with
  | [.int j] => if -(2 ^ 62) ≤ j ∧ j < 2 ^ 62 then .ok (rangeD 0 j.toNat) τ else .bad
  | _ => .bad
def iR2' (d : List D) (τ : Env) : R (List D) := match d with
  | [.int i, .int j] => if -(2 ^ 62) ≤ i ∧ i < 2 ^ 62 ∧ -(2 ^ 62) ≤ j ∧ j < 2 ^ 62 then .ok (rangeD i (j - i).toNat) τ else .bad
  | _ => .bad
def iE' (d : List D) (τ : Env) : R (List D) := match d with
  | [.lst _ es] => .ok (enumD 0 es) τ | _ => .bad
def iV' (d : List D) (τ : Env) : R (List D) := match d with
  | [.lst _ es] => .ok es.reverse τ | _ => .bad
def iZ' (d : List D) (τ : Env) : R (List D) := match d with
  | [.lst _ es, .lst _ fs] => .ok (zipD es fs) τ | _ => .bad
theorem x_iL {m : ME} : iL m τ = (m τ).bind fun d τ1 => iL' (freeze d) τ1 := rfl
theorem x_iL1 {b : Bool} : iL' (.lst b ds) τ = .ok ds τ := rfl
theorem x_iT {m : ME} : iT m τ = (m τ).bind fun d τ1 => iT' d τ1 := rfl
theorem x_iT1 : iT' (.tup ds) τ = .ok ds τ := rfl
theorem x_iS {m : ME} : iS m τ = (m τ).bind fun d τ1 => iS' d τ1 := rfl
theorem x_iS1 {z : Str} : iS' (.str z) τ = .ok (strD z) τ := rfl
theorem x_iR1 {m : MA} : iR1 m τ = (m τ).bind fun d τ1 => iR1' d τ1 := rfl
theorem x_iR11 {j : Int} (h1 : -4611686018427387904 ≤ j) (h2 : j < 4611686018427387904) : iR1' [.int j] τ = .ok (rangeD 0 j.toNat) τ := if_pos ⟨h1, h2⟩
theorem x_iR2 {m : MA} : iR2 m τ = (m τ).bind fun d τ1 => iR2' d τ1 := rfl
theorem x_iR21 {i j : Int} (h1 : -4611686018427387904 ≤ i) (h2 : i < 4611686018427387904) (h3 : -4611686018427387904 ≤ j) (h4 : j < 4611686018427387904) : iR2' [.int i, .int j] τ = .ok (rangeD i (j - i).toNat) τ := if_pos ⟨h1, h2, h3, h4⟩
theorem x_iE {m : MA} : iE m τ = (m τ).bind fun d τ1 => iE' (freezeL d) τ1 := rfl
theorem x_iE1 {b : Bool} : iE' [.lst b ds] τ = .ok (enumD 0 ds) τ := rfl
theorem x_iV {m : MA} : iV m τ = (m τ).bind fun d τ1 => iV' (freezeL d) τ1 := rfl
theorem x_iV1 {b : Bool} : iV' [.lst b ds] τ = .ok ds.reverse τ := rfl
theorem x_iZ {m : MA} : iZ m τ = (m τ).bind fun d τ1 => iZ' (freezeL d) τ1 := rfl
theorem x_iZ1 {b b' : Bool} {es : List D} : iZ' [.lst b ds, .lst b' es] τ = .ok (zipD ds es) τ := rfl
def forB (r : SR) (k : Env → SR) : SR := match r with
  | .nx τ2 => k τ2 | .ct τ2 => k τ2 | .bk τ2 => .nx τ2 | .rt d τ2 => .rt d τ2 | .ex c τ2 => .ex c τ2 | .bad => .bad
def forG (o : Option Env) (b : MS) (k : Env → SR) : SR := match o with
  | none => .bad | some τ1 => forB (b τ1) k
theorem x_for {m : MA} {g : D → Env → Option Env} {b : MS} : sFor m g b τ = (m τ).s fun items τ1 => forL g b items τ1 := rfl
theorem x_fo0 {g : D → Env → Option Env} {b : MS} : forL g b [] τ = .nx τ := rfl
theorem x_fo1 {g : D → Env → Option Env} {b : MS} : forL g b (d :: ds) τ = forG (g d τ) b (forL g b ds) := rfl
theorem x_fo2 {b : MS} {k : Env → SR} : forG (some τ) b k = forB (b τ) k := rfl
theorem x_fo3 {k : Env → SR} : forB (.nx τ) k = k τ := rfl
theorem x_fo4 {k : Env → SR} : forB (.ct τ) k = k τ := rfl
theorem x_fo5 {k : Env → SR} : forB (.bk τ) k = .nx τ := rfl
theorem x_fo6 {k : Env → SR} : forB (.rt d τ) k = .rt d τ := rfl
theorem x_fo7 {k : Env → SR} : forB (.ex c τ) k = .ex c τ := rfl
theorem x_gT {n : Nat} {g : List D → Env → Option Env} : gT n g (.tup ds) τ = if ds.length = n then g ds τ else none := rfl
theorem x_gC {g : D → Env → Option Env} {h : List D → Env → Option Env} : gCons' g h (d :: ds) τ = (g d τ).bind (h ds) := rfl
theorem x_gC0 : gNil' [] τ = some τ := rfl
def tryB (sub : Str → Option Bool) (r : SR) (su : MS) : SR := match r with
  | .ex c τ' => (match sub c with | some true => noEx (su τ') | some false => .ex c τ' | none => .bad)
  | .nx τ' => .nx τ' | .rt d τ' => .rt d τ' | .bk τ' => .bk τ' | .ct τ' => .ct τ' | .bad => .bad
def tryC (o : Option Bool) (c : Str) (τ' : Env) (su : MS) : SR := match o with
  | some true => noEx (su τ') | some false => .ex c τ' | none => .bad
theorem x_try {sub : Str → Option Bool} {b su : MS} : sTry sub b su τ = tryB sub (b τ) su := rfl
theorem x_try1 {sub : Str → Option Bool} {su : MS} : tryB sub (.nx τ) su = .nx τ := rfl
theorem x_try2 {sub : Str → Option Bool} {su : MS} : tryB sub (.rt d τ) su = .rt d τ := rfl
theorem x_try3 {sub : Str → Option Bool} {su : MS} : tryB sub (.ex c τ) su = tryC (sub c) c τ su := rfl
theorem x_try4 {su : MS} : tryC (some true) c τ su = noEx (su τ) := rfl
theorem x_try5 {su : MS} : tryC (some false) c τ su = .ex c τ := rfl
theorem x_nx1 : noEx (.nx τ) = .nx τ := rfl
theorem x_nx2 : noEx (.rt d τ) = .rt d τ := rfl
theorem x_try6 {sub : Str → Option Bool} {su : MS} : tryB sub (.bk τ) su = .bk τ := rfl
theorem x_try7 {sub : Str → Option Bool} {su : MS} : tryB sub (.ct τ) su = .ct τ := rfl
theorem x_nx3 : noEx (.bk τ) = .bk τ := rfl
theorem x_nx4 : noEx (.ct τ) = .ct τ := rfl
def appS (o : Option D) (i : Nat) (d : D) (τ : Env) : SR := match o with
  | some (.lst true es) => if es.length < 1000000 then .nx (τ.set i (some (.lst true (es ++ [d])))) else .bad
  | _ => .bad
def appT (o : Option D) (i : Nat) (r : R D) : SR := match o with
  | some (.lst true _) => r.s fun d τ1 => appS (τ1.getD i none) i d τ1
  | _ => .bad
theorem x_app {m : ME} : sApp i m τ = appT (τ.getD i none) i (m τ) := rfl
theorem x_app1 {r : R D} : appT (some (.lst true ds)) i r = r.s fun d τ1 => appS (τ1.getD i none) i d τ1 := rfl
theorem x_app2 : appS (some (.lst true ds)) i d τ = if ds.length < 1000000 then .nx (τ.set i (some (.lst true (ds ++ [d])))) else .bad := rfl
def lcE (r : R (List D)) : R D := match r with
  | .ok acc τ2 => .ok (.lst true acc) τ2
  | _ => .bad
def lcG (o : Option Env) (own : List Nat) (g : D → Env → Option Env) (t : MT) (m : ME) (r acc : List D) : R (List D) := match o with
  | none => .bad
  | some τ1 => (t τ1).bind fun b τ2 => if b = true then (m τ2).bind fun e τ3 => if acc.length < 1000000 then lcL own g t m r (acc ++ [e]) (wipeE τ3 own) else .bad else lcL own g t m r acc (wipeE τ2 own)
theorem x_lc {own : List Nat} {it : MA} {g : D → Env → Option Env} {t : MT} {m : ME} : eLc own it g t m τ = (it τ).bind fun items τ1 => lcE (lcL own g t m items [] (wipeE τ1 own)) := rfl
theorem x_lcE : lcE (.ok ds τ) = .ok (.lst true ds) τ := rfl
theorem x_lc0 {own : List Nat} {g : D → Env → Option Env} {t : MT} {m : ME} : lcL own g t m [] ds τ = .ok ds τ := rfl
theorem x_lc1 {own : List Nat} {g : D → Env → Option Env} {t : MT} {m : ME} {r : List D} : lcL own g t m (d :: r) ds τ = lcG (g d τ) own g t m r ds := rfl
theorem x_lcG {own : List Nat} {g : D → Env → Option Env} {t : MT} {m : ME} {r : List D} : lcG (some τ) own g t m r ds = (t τ).bind fun b τ2 => if b = true then (m τ2).bind fun e τ3 => if ds.length < 1000000 then lcL own g t m r (ds ++ [e]) (wipeE τ3 own) else .bad else lcL own g t m r ds (wipeE τ2 own) := rfl
theorem x_w0 : wipeE τ [] = τ := rfl
theorem x_w1 {own : List Nat} : wipeE τ (i :: own) = (wipeE τ own).set i none := rfl
theorem vMinL4 (m : Bool) (a b c d : Int) : gMinL [.lst m [.int a, .int b, .int c, .int d]] = some (.int (minI a [b, c, d])) := rfl
theorem vMaxL4 (m : Bool) (a b c d : Int) : gMaxL [.lst m [.int a, .int b, .int c, .int d]] = some (.int (maxI a [b, c, d])) := rfl
theorem vAll3 (m : Bool) (a b c : Bool) : gAll [.lst m [.bl a, .bl b, .bl c]] = some (.bl ([a, b, c].all id)) := rfl
theorem vAny3 (m : Bool) (a b c : Bool) : gAny [.lst m [.bl a, .bl b, .bl c]] = some (.bl ([a, b, c].any id)) := rfl
theorem vAll4 (m : Bool) (a b c d : Bool) : gAll [.lst m [.bl a, .bl b, .bl c, .bl d]] = some (.bl ([a, b, c, d].all id)) := rfl
theorem vAny4 (m : Bool) (a b c d : Bool) : gAny [.lst m [.bl a, .bl b, .bl c, .bl d]] = some (.bl ([a, b, c, d].any id)) := rfl
def whC (r : R Bool) (b : MS) (k : Env → SR) : SR := match r with
  | .ok true τ1 => forB (b τ1) k | .ok false τ1 => .nx τ1 | .ex e τ1 => .ex e τ1 | .bad => .bad
theorem x_wh1 {b : MS} {k : Env → SR} : whC (.ok true τ) b k = forB (b τ) k := rfl
theorem x_wh2 {b : MS} {k : Env → SR} : whC (.ok false τ) b k = .nx τ := rfl
theorem x_wh0 {f : Env → Nat} {t : MT} {b : MS} : sWhile f t b τ = whileM t b (f τ) τ := rfl
theorem x_abs {i : Int} : gAbs [.int i] = some (.int (if i < 0 then -i else i)) := rfl
theorem vI_ii {i : Int} : gIsi [.int i, .ty "int"] = some (.bl true) := rfl
theorem vI_ib {i : Int} : gIsi [.int i, .ty "bool"] = some (.bl false) := rfl
theorem vI_it {i : Int} : gIsi [.int i, .ty "tuple"] = some (.bl false) := rfl
theorem vI_il {i : Int} : gIsi [.int i, .ty "list"] = some (.bl false) := rfl
theorem vI_is {i : Int} : gIsi [.int i, .ty "str"] = some (.bl false) := rfl
theorem vI_bb {i : Bool} : gIsi [.bl x, .ty "bool"] = some (.bl true) := rfl
theorem vI_bi {i : Bool} : gIsi [.bl x, .ty "int"] = some (.bl true) := rfl
theorem vI_tt {i : Bool} : gIsi [.tup ds, .ty "tuple"] = some (.bl true) := rfl
theorem vI_tl {i : Bool} : gIsi [.tup ds, .ty "list"] = some (.bl false) := rfl
theorem vI_ti {i : Bool} : gIsi [.tup ds, .ty "int"] = some (.bl false) := rfl
theorem vI_ll {i : Bool} : gIsi [.lst i ds, .ty "list"] = some (.bl true) := rfl
theorem vI_lt {i : Bool} : gIsi [.lst i ds, .ty "tuple"] = some (.bl false) := rfl
theorem vI_ss {i : Str} : gIsi [.str i, .ty "str"] = some (.bl true) := rfl
theorem vEqB {i j : Bool} : gEq (.bl i) (.bl j) = some (.bl (i == j)) := rfl
theorem vNeB {i j : Bool} : gNe (.bl i) (.bl j) = some (.bl (!(i == j))) := rfl
def asB (i : Nat) (sub : Str → Option Bool) (r : SR) (su : Str → MS) : SR := match r with
  | .ex c τ' => tryAs i (sub c) c τ' su
  | .nx τ' => .nx τ' | .rt d τ' => .rt d τ' | .bk τ' => .bk τ' | .ct τ' => .ct τ' | .bad => .bad
theorem x_ta {sub : Str → Option Bool} {b : MS} {su : Str → MS} : sTryAs i sub b su τ = asB i sub (b τ) su := rfl
theorem x_ta1 {sub : Str → Option Bool} {su : Str → MS} : asB i sub (.ex c τ) su = tryAs i (sub c) c τ su := rfl
theorem x_ta2 {sub : Str → Option Bool} {su : Str → MS} : asB i sub (.nx τ) su = .nx τ := rfl
theorem x_ta3 {su : Str → MS} : tryAs i (some true) c τ su = if i < τ.length then endAs i (su c (τ.set i none)) else .bad := rfl
theorem x_ta4 : endAs i (.nx τ) = .nx (τ.set i none) := rfl
theorem x_ta5 : endAs i (.rt d τ) = .rt d τ := rfl
theorem x_is : eIs (some x) τ = .ok (.bl x) τ := rfl
theorem nc_0 : ((0 : Nat) : Int) = 0 := rfl
theorem nc_1 : ((1 : Nat) : Int) = 1 := rfl
theorem nc_2 : ((2 : Nat) : Int) = 2 := rfl
theorem nc_3 : ((3 : Nat) : Int) = 3 := rfl
theorem nc_4 : ((4 : Nat) : Int) = 4 := rfl
theorem nc_5 : ((5 : Nat) : Int) = 5 := rfl
theorem nc_6 : ((6 : Nat) : Int) = 6 := rfl
theorem nc_7 : ((7 : Nat) : Int) = 7 := rfl
theorem nc_8 : ((8 : Nat) : Int) = 8 := rfl
theorem nc_9 : ((9 : Nat) : Int) = 9 := rfl
theorem nc_10 : ((10 : Nat) : Int) = 10 := rfl
theorem nc_11 : ((11 : Nat) : Int) = 11 := rfl
def mxI (i j : Int) : Int := if j > i then j else i
def mnI (i j : Int) : Int := if j < i then j else i
theorem vMax2 {i j : Int} : gMax2 [.int i, .int j] = some (.int (mxI i j)) := rfl
theorem vMin2 {i j : Int} : gMin2 [.int i, .int j] = some (.int (mnI i j)) := rfl
theorem vIsN0 : gIsN .non .non = some (.bl true) := rfl
theorem vIsN1 {i : List D} : gIsN (.tup i) .non = some (.bl false) := rfl
theorem vNotN0 : gNotN .non .non = some (.bl false) := rfl
theorem vNotN1 {i : List D} : gNotN (.tup i) .non = some (.bl true) := rfl
theorem vIsN2 {i : Int} : gIsN (.int i) .non = some (.bl false) := rfl
theorem vNotN2 {i : Int} : gNotN (.int i) .non = some (.bl true) := rfl
def loD (ds : List D) (τ : Env) : R D := match ds with
  | [.lst _ es] => .ok (.lst true es) τ
  | [.tup es] => .ok (.lst true es) τ
  | _ => .bad
theorem x_lo {m : MA} : eLstOf m τ = (m τ).bind fun ds τ1 => loD (freezeL ds) τ1 := rfl
theorem x_lo1 {b : Bool} : loD [.lst b ds] τ = .ok (.lst true ds) τ := rfl
theorem x_lo2 : loD [.tup ds] τ = .ok (.lst true ds) τ := rfl
theorem vAll2 (m : Bool) (a b : Bool) : gAll [.lst m [.bl a, .bl b]] = some (.bl ([a, b].all id)) := rfl
theorem vAny2 (m : Bool) (a b : Bool) : gAny [.lst m [.bl a, .bl b]] = some (.bl ([a, b].any id)) := rfl
def slE (o : Option D) (τ : Env) : R D := match o with
  | some x => .ok x τ | none => .bad
theorem x_sl {f : D → Option Int → Option Int → Option D} {m : ME} {p r : Env → R (Option Int)} : eSlice f m p r τ = (m τ).bind fun d τ1 => slR (freeze d) p r f τ1 := rfl
theorem x_sl1 {f : D → Option Int → Option Int → Option D} {p r : Env → R (Option Int)} : slR d p r f τ = (p τ).bind fun lo τ1 => (r τ1).bind fun hi τ2 => slE (f d lo hi) τ2 := rfl
theorem x_sl2 : slE (some d) τ = .ok d τ := rfl
theorem x_pn : pNone τ = .ok none τ := rfl
def psI (d : D) (τ : Env) : R (Option Int) := match d with
  | .int i => .ok (some i) τ | _ => .bad
theorem x_ps {m : ME} : pSome m τ = (m τ).bind fun d τ1 => psI d τ1 := rfl
theorem x_ps1 {i : Int} : psI (.int i) τ = .ok (some i) τ := rfl
theorem x_cutL {b : Bool} {l h : Option Int} : cutLd (.lst b ds) l h = some (.lst true (cutL ds l h)) := rfl
theorem x_cutC {l h : Option Int} : cutLd (.cst ds) l h = some (.lst true (cutL ds l h)) := rfl
theorem okP_str {i : Str} (h : PySem.PyData.strOk i = true) : okP (.str i) = true := by
  show (true && (PySem.PyData.canLay0 (.str i) && decide (PySem.PyData.depth (.str i) ≤ 64))) = true
  rw [show PySem.PyData.canLay0 (.str i) = true from h]
  rfl
theorem vEqS {i j : Str} (h1 : PySem.PyData.strOk i = true) (h2 : PySem.PyData.strOk j = true) : gEq (.str i) (.str j) = some (.bl (i == j)) := if_pos ⟨okP_str h1, okP_str h2⟩
theorem vNeS {i j : Str} (h1 : PySem.PyData.strOk i = true) (h2 : PySem.PyData.strOk j = true) : gNe (.str i) (.str j) = some (.bl (!(i == j))) := if_pos ⟨okP_str h1, okP_str h2⟩
theorem x_fz_obj {ns : List Str} : isFz (.obj false c ns ds) = true := rfl
theorem x_fr_obj {ns : List Str} : freeze (.obj false c ns ds) = .obj false c ns ds := rfl
theorem x_make {m : MA} {ns : List Str} : eMake c ns m τ = (m τ).bind fun ds τ1 => if ds.length = ns.length then .ok (.obj false c ns (freezeL ds)) τ1 else .bad := rfl
def methC (o : Option (List D → CR)) (b : Bool) (d : D) (ma : MA) (τ1 : Env) : R D := match o with
  | some g => if b = true then .bad else (ma τ1).bind fun ds τ2 => ofC (g (d :: freezeL ds)) τ2
  | none => .bad
def methA (As : List (Str × (List D → CR))) (m : Str) (d : D) (ma : MA) (τ1 : Env) : R D := match d with
  | .obj false c ns xs => methC (As.lookup c) (ns.contains m) (.obj false c ns xs) ma τ1
  | _ => .bad
theorem x_meth {As : List (Str × (List D → CR))} {m : Str} {mo : ME} {ma : MA} : eMeth As m mo ma τ = (mo τ).bind fun d τ1 => methA As m d ma τ1 := by
  show (mo τ).bind _ = _
  congr 1
theorem x_meth2 {As : List (Str × (List D → CR))} {m : Str} {ns : List Str} {ma : MA} : methA As m (.obj false c ns ds) ma τ = methC (As.lookup c) (ns.contains m) (.obj false c ns ds) ma τ := rfl
theorem x_meth3 {g : List D → CR} {ma : MA} : methC (some g) false d ma τ = (ma τ).bind fun ds τ2 => ofC (g (d :: freezeL ds)) τ2 := rfl
def isOD (tbl : Str → Option Bool) (o : Option D) : Option D := o.bind fun d => match d with
  | .obj _ c _ _ => (tbl c).map D.bl
  | _ => none
theorem x_isO {tbl : Str → Option Bool} {m : MZ} : zIsO tbl m τ = isOD tbl (m τ) := rfl
theorem x_isO1 {tbl : Str → Option Bool} {b : Bool} {ns : List Str} : isOD tbl (some (.obj b c ns ds)) = (tbl c).map D.bl := rfl
theorem x_cat {a b : ME} : eCat a b τ = (a τ).bind fun x τ1 => (b τ1).bind fun y τ2 => slE' (catD (freeze x) (freeze y)) τ2 := rfl
theorem x_cat1 : slE' (some d) τ = .ok d τ := rfl
def callZ (g : List D → CR) (o : Option (List D)) (τ : Env) : R D := match o with
  | some ds => lendR (g (freezeL ds)) τ
  | none => .bad
def methZC (o : Option (List D → CR)) (b : Bool) (d : D) (a : Option (List D)) (τ1 : Env) : R D := match o with
  | some g => if b = true then .bad else (match a with
    | some ds => lendR (g (d :: freezeL ds)) τ1
    | none => .bad)
  | none => .bad
def methZA (As : List (Str × (List D → CR))) (m : Str) (d : D) (a : Option (List D)) (τ1 : Env) : R D := match d with
  | .obj false c ns xs => methZC (As.lookup c) (ns.contains m) (.obj false c ns xs) a τ1
  | _ => .bad
theorem x_methZ {As : List (Str × (List D → CR))} {m : Str} {mo : ME} {ma : Env → Option (List D)} : eMethZ As m mo ma τ = (mo τ).bind fun d τ1 => methZA As m d (ma τ1) τ1 := by
  show (mo τ).bind _ = _
  congr 1
  all_goals (
    funext d τ1
    cases d with
    | obj b c ns xs =>
      cases b with
      | true => rfl
      | false =>
        unfold methZA methZC
        cases As.lookup c <;> rfl
    | _ => rfl)
def setIx1 (o : Option D) (k : Option D) (i : Nat) (d : D) (τ1 : Env) : SR := match o with
  | some (.lst true es) => (match k with
    | some (.int k) => (match setD es k d with
      | some es' => .nx (τ1.set i (some (.lst true es')))
      | none => .bad)
    | _ => .bad)
  | _ => .bad
def setIx2 (o : Option (List D)) (i : Nat) (τ1 : Env) : SR := match o with
  | some es' => .nx (τ1.set i (some (.lst true es')))
  | none => .bad
theorem x_methZ2 {As : List (Str × (List D → CR))} {m : Str} {ns : List Str} {a : Option (List D)} : methZA As m (.obj false c ns ds) a τ = methZC (As.lookup c) (ns.contains m) (.obj false c ns ds) a τ := rfl
theorem x_methZ3 {g : List D → CR} : methZC (some g) false d (some ds) τ = lendR (g (d :: freezeL ds)) τ := rfl
theorem x_callZ {g : List D → CR} {m : Env → Option (List D)} : eCallZ g m τ = callZ g (m τ) τ := rfl
theorem x_callZ1 {g : List D → CR} : callZ g (some ds) τ = lendR (g (freezeL ds)) τ := rfl
theorem x_lend1 : lendR (.ok d) τ = if clean d = true then .ok d τ else .bad := rfl
theorem x_lend2 : lendR (.ex c) τ = .ex c τ := rfl
theorem x_cl_int {i : Int} : clean (.int i) = true := rfl
theorem x_cl_bl {i : Bool} : clean (.bl i) = true := rfl
theorem x_cl_str {i : Str} : clean (.str i) = true := rfl
theorem x_cl_non : clean .non = true := rfl
theorem x_cl_tup : clean (.tup ds) = cleanL ds := rfl
theorem x_cl0 : cleanL [] = true := rfl
theorem x_cl1 : cleanL (d :: ds) = (clean d && cleanL ds) := rfl
theorem x_cl_lst : clean (.lst true ds) = cleanL ds := Bool.true_and _
theorem x_setIx {mi : MZ} {m : ME} : sSetIx i mi m τ = (m τ).s fun d τ1 => setIx1 (τ1.getD i none) (mi τ1) i d τ1 := rfl
theorem x_setIx1 {k : Int} : setIx1 (some (.lst true ds)) (some (.int k)) i d τ = setIx2 (setD ds k d) i τ := rfl
theorem x_setIx2 : setIx2 (some ds) i τ = .nx (τ.set i (some (.lst true ds))) := rfl
theorem vInD {a : D} {m : Bool} {xs : List D} (h1 : okP a = true) (h2 : okP (.lst m xs) = true) : gInD false a (.lst m xs) = some (.bl ((toPs xs).any fun z => PyData.eqv z (toP a))) := if_pos ⟨h1, h2⟩
def callI3 (r : CR2) (is : List Nat) (τ2 : Env) : R D := match r with
  | .ok d outs => if outs.length = is.length then .ok d (putD is outs τ2) else .bad
  | .bad => .bad
def callI2 (o : Option (List D × Env)) (g : List D → CR2) (is : List Nat) (ds : List D) : R D := match o with
  | none => .bad
  | some (ios, τ2) => callI3 (g (ios ++ freezeL ds)) is τ2
def takeC (o : Option D) (i : Nat) (is : List Nat) (τ : Env) : Option (List D × Env) := match o with
  | none => none
  | some d => (takeD is (τ.set i none)).map fun p => (d :: p.1, p.2)
def callRI (k : Nat) (r : SR) : CR2 := match r with
  | .nx τ => outR k .non τ
  | .rt d τ => outR k d τ
  | _ => .bad
def outR1 (o : Option (List D)) (d : D) : CR2 := match o with
  | some os => .ok d os
  | none => .bad
def parS (i j : Nat) (r : R (List D)) : SR := r.s fun ds τ1 => match ds with
  | [x, y] => .nx ((τ1.set i (some x)).set j (some y))
  | _ => .bad
def sortR2 (o : Option (List Int)) (τ1 : Env) : R D := match o with
  | some ns => .ok (.lst true ((sortI ns).map D.int)) τ1
  | none => .bad
def sortR (ds : List D) (τ1 : Env) : R D := match ds with
  | [.lst _ es] => sortR2 (intsOf es) τ1
  | _ => .bad
theorem x_callI {g : List D → CR2} {is : List Nat} {m : MA} : eCallI g is m τ = if is.all (fun i => (τ.getD i none).isSome) = true then (m τ).bind fun ds τ1 => callI g is ds τ1 else .bad := rfl
theorem x_callI1 {g : List D → CR2} {is : List Nat} : callI g is ds τ = callI2 (takeD is τ) g is ds := by unfold callI; cases takeD is τ <;> rfl
theorem x_callI2 {g : List D → CR2} {is : List Nat} {ios : List D} : callI2 (some (ios, τ)) g is ds = callI3 (g (ios ++ freezeL ds)) is τ := rfl
theorem x_callI3 {is : List Nat} : callI3 (.ok d ds) is τ = if ds.length = is.length then .ok d (putD is ds τ) else .bad := rfl
theorem x_take0 : takeD [] τ = some ([], τ) := rfl
theorem x_take1 {is : List Nat} : takeD (i :: is) τ = takeC (τ.getD i none) i is τ := by show (match τ.getD i none with | none => none | some d => _) = _; cases τ.getD i none <;> rfl
theorem x_take2 {is : List Nat} : takeC (some d) i is τ = (takeD is (τ.set i none)).map fun p => (d :: p.1, p.2) := rfl
theorem x_put0 : putD [] [] τ = τ := rfl
theorem x_put1 {is : List Nat} : putD (i :: is) (d :: ds) τ = putD is ds (τ.set i (some d)) := rfl
theorem x_cFI {n N k : Nat} {b : MS} : callFI n N k b ds = if ds.length = n then callRI k (b (ds.map some ++ List.replicate (N - n) none)) else .bad := rfl
theorem x_cRI1 {k : Nat} : callRI k (.nx τ) = outR k .non τ := rfl
theorem x_cRI2 {k : Nat} : callRI k (.rt d τ) = outR k d τ := rfl
theorem x_outR {k : Nat} : outR k d τ = outR1 (outsE k τ) d := by unfold outR outR1; cases outsE k τ <;> rfl
theorem x_outR1 : outR1 (some ds) d = .ok d ds := rfl
theorem x_out1 {a : D} : outsE 1 (some a :: τ) = some [a] := rfl
theorem x_out2 {a b : D} : outsE 2 (some a :: some b :: τ) = some [a, b] := rfl
theorem x_par {j : Nat} {m : MA} : sPar i j m τ = parS i j (m τ) := rfl
theorem x_par1 {j : Nat} {a b : D} : parS i j (.ok [a, b] τ) = .nx ((τ.set i (some a)).set j (some b)) := rfl
theorem x_sort {m : MA} : eSorted m τ = (m τ).bind fun ds τ1 => sortR (freezeL ds) τ1 := rfl
theorem x_sort1 {b : Bool} : sortR [.lst b ds] τ = sortR2 (intsOf ds) τ := rfl
theorem x_sort2 {ns : List Int} : sortR2 (some ns) τ = .ok (.lst true ((sortI ns).map D.int)) τ := rfl
theorem x_io2 {a b : Int} : intsOf [.int a, .int b] = some [a, b] := rfl
theorem x_io4 {a b c d : Int} : intsOf [.int a, .int b, .int c, .int d] = some [a, b, c, d] := rfl
theorem vIsB {a b : Bool} : gIsB (.bl a) (.bl b) = some (.bl (decide (a = b))) := rfl
theorem vIndex {a : D} {m : Bool} {xs : List D} (h1 : okP a = true) (h2 : okP (.lst m xs) = true) {j : Nat} (h : findP (toP a) (toPs xs) 0 = some j) : gIndex (.lst m xs) a = some (.int (j : Nat)) := by
  show (if okP a = true ∧ okP (.lst m xs) = true then (findP (toP a) (toPs xs) 0).map fun j => D.int (j : Nat) else none) = _
  rw [if_pos ⟨h1, h2⟩, h]; rfl
def lrD (d : D) (τ : Env) : R D := match d with
  | .lst _ es => .ok (.lst true es.reverse) τ
  | _ => .bad
def clrT (o : Option D) (i : Nat) (τ : Env) : SR := match o with
  | some (.lst true _) => .nx (τ.set i (some (.lst true [])))
  | _ => .bad
def clrE (o : Option D) (i j : Nat) (τ : Env) : SR := match o with
  | some (.lst true es) => if es.all isOwnL = true ∧ j < τ.length then .nx ((τ.set j none).set i (some (.lst true (clrL es.length es)))) else .bad
  | _ => .bad
def popS (o : Option (List D)) (i : Nat) (τ : Env) : SR := match o with
  | some es' => .nx (τ.set i (some (.lst true es')))
  | none => .bad
def popT (o k : Option D) (i : Nat) (τ : Env) : SR := match o with
  | some (.lst true es) => (match k with
    | some (.int k) => popS (popD es k) i τ
    | _ => .bad)
  | _ => .bad
def insS (o : Option D) (k : Int) (i : Nat) (d : D) (τ1 : Env) : SR := match o with
  | some (.lst true es) => if es.length < 1000000 ∧ 0 ≤ k ∧ k < 2 ^ 63 then .nx (τ1.set i (some (.lst true (es.take k.toNat ++ [d] ++ es.drop k.toNat)))) else .bad
  | _ => .bad
def insT (o k : Option D) (i : Nat) (r : R D) : SR := match o, k with
  | some (.lst true _), some (.int k) => r.s fun d τ1 => insS (τ1.getD i none) k i d τ1
  | _, _ => .bad
theorem x_pop {mi : MZ} : sPopAt i mi τ = popT (τ.getD i none) (mi τ) i τ := by
  unfold sPopAt popT popS
  rfl
theorem x_lr {m : ME} : eLstRev m τ = (m τ).bind fun d τ1 => lrD (freeze d) τ1 := rfl
theorem x_lr1 {b : Bool} : lrD (.lst b ds) τ = .ok (.lst true ds.reverse) τ := rfl
theorem x_clr : sClear i τ = clrT (τ.getD i none) i τ := rfl
theorem x_clr1 : clrT (some (.lst true ds)) i τ = .nx (τ.set i (some (.lst true []))) := rfl
theorem x_clrE {j : Nat} : sClearEach i j τ = clrE (τ.getD i none) i j τ := rfl
theorem x_clrE1 {j : Nat} : clrE (some (.lst true ds)) i j τ = if ds.all isOwnL = true ∧ j < τ.length then .nx ((τ.set j none).set i (some (.lst true (clrL ds.length ds)))) else .bad := rfl
theorem x_pop1 {k : Int} : popT (some (.lst true ds)) (some (.int k)) i τ = popS (popD ds k) i τ := rfl
theorem x_pop2 : popS (some ds) i τ = .nx (τ.set i (some (.lst true ds))) := rfl
theorem x_ins {mi : MZ} {m : ME} : sIns i mi m τ = insT (τ.getD i none) (mi τ) i (m τ) := rfl
theorem x_ins1 {k : Int} {r : R D} : insT (some (.lst true ds)) (some (.int k)) i r = r.s fun d τ1 => insS (τ1.getD i none) k i d τ1 := rfl
theorem x_ins2 {k : Int} : insS (some (.lst true ds)) k i d τ = if ds.length < 1000000 ∧ 0 ≤ k ∧ k < 2 ^ 63 then .nx (τ.set i (some (.lst true (ds.take k.toNat ++ [d] ++ ds.drop k.toNat)))) else .bad := rfl
theorem x_sk {p r : Env → R (Option Int)} : eSliceK i p r τ = skD (τ.getD i none) i p r τ := rfl
theorem x_sk1 {p r : Env → R (Option Int)} : skD (some (.lst true ds)) i p r τ = if ds.all isFz = true then skP (p (τ.set i none)) ds i r else .bad := rfl
theorem x_sk2 {o : Option Int} {r : Env → R (Option Int)} : skP (.ok o τ) ds i r = skQ (r τ) ds o i := rfl
theorem x_sk3 {o o' : Option Int} : skQ (.ok o' τ) ds o i = .ok (.lst true (cutL ds o o')) (τ.set i (some (.lst true ds))) := rfl
theorem x_ck {g : List D → CR} {m : MA} : eCallK g i m τ = if (τ.getD i none).isSome = true then (m τ).bind fun es τ1 => ckR g (τ1.getD i none) es τ1 else .bad := rfl
theorem x_ck1 {g : List D → CR} : ckR g (some d) ds τ = lendR (g (freezeL [d] ++ freezeL ds)) τ := rfl
theorem x_lk : eLstK i τ = lkR (τ.getD i none) τ := rfl
theorem x_lk1 : lkR (some (.lst true ds)) τ = if ds.all isFz = true then .ok (.lst true ds) τ else .bad := rfl
theorem x_iK {m : ME} : iK m τ = (m τ).bind fun d τ1 => iK' d τ1 := rfl
theorem x_iK1 : iK' (.cst ds) τ = .ok ds τ := rfl
theorem x_forB {g : D → Env → Option Env} {b : MS} : sForB i g b τ = fbD (τ.getD i none) i g b τ := rfl
theorem x_fbD {g : D → Env → Option Env} {b : MS} : fbD (some (.lst true ds)) i g b τ = if ds.all isFz = true then fbR i ds (forL g b ds (τ.set i none)) else .bad := rfl
theorem x_fbR : fbR i ds (.nx τ) = .nx (τ.set i (some (.lst true ds))) := rfl
theorem x_fbR2 : fbR i ds (.rt d τ) = .rt d τ := rfl
theorem x_fzE {m : ME} : eFz m τ = (m τ).bind fun d τ1 => .ok (freeze d) τ1 := rfl
theorem vInt1 {j : Int} : gInt [.int j] = some (.int j) := rfl
theorem vInt2 {b : Bool} : gInt [.bl b] = some (.int (if b then 1 else 0)) := rfl
def tupR (l : List D) (τ : Env) : R D := match l with
  | [.lst _ es] => .ok (.tup es) τ
  | [.tup es] => .ok (.tup es) τ
  | _ => .bad
theorem x_tupO {m : MA} : eTupOf m τ = (m τ).bind fun ds τ1 => tupR (freezeL ds) τ1 := rfl
theorem x_tupO1 {b : Bool} : tupR [.lst b ds] τ = .ok (.tup ds) τ := rfl
theorem x_tupO2 : tupR [.tup ds] τ = .ok (.tup ds) τ := rfl
def zRi (o : Option D) (g : D → D → Option D) (a : D) : Option D := o.bind fun b => g a b
theorem x_e2Z {g : D → D → Option D} {m : ME} {n : MZ} : e2Z g m n τ = (m τ).bind fun a τ1 => ofO (zRi (n τ1) g a) τ1 := rfl
theorem x_e2Z1 {g : D → D → Option D} {a b : D} : zRi (some b) g a = g a b := rfl
theorem x_appF {cc f : Str} {m : ME} : sAppF i cc f m τ = appF1 i cc f (τ.getD i none) (m (τ.set i none)) := rfl
theorem x_appF1 {cc f : Str} {ns : List Str} {r : R D} : appF1 i cc f (some (.obj true cc ns ds)) r = appFL i cc f ns ds (lookD f ns ds) r := if_pos rfl
theorem x_appF2 {cc f : Str} {ns : List Str} {r : R D} {es : List D} : appFL i cc f ns ds (some (.lst true es)) r = if es.length < 1000000 then appF2 i cc f ns ds es r else .bad := rfl
theorem x_appF3 {cc f : Str} {ns : List Str} {es : List D} : appF2 i cc f ns ds es (.ok d τ) = .nx (τ.set i (some (.obj true cc ns (putL f (.lst true (es ++ [d])) ns ds)))) := rfl
theorem x_setF {cc f : Str} {mi : MZ} {m : ME} : sSetIxF i cc f mi m τ = (m τ).s fun d τ1 => setF1 i cc f (τ1.getD i none) (mi τ1) d τ1 := rfl
theorem x_setF1 {cc f : Str} {ns : List Str} {k : Option D} : setF1 i cc f (some (.obj true cc ns ds)) k d τ = setFL i cc f ns ds (lookD f ns ds) k d τ := if_pos rfl
theorem x_setF2 {cc f : Str} {ns : List Str} {k : Int} {es : List D} : setFL i cc f ns ds (some (.lst true es)) (some (.int k)) d τ = setF3 i cc f ns ds (setD es k d) τ := rfl
theorem x_setF3 {cc f : Str} {ns : List Str} {es : List D} : setF3 i cc f ns ds (some es) τ = .nx (τ.set i (some (.obj true cc ns (putL f (.lst true es) ns ds)))) := rfl
theorem x_setFd {cc f : Str} {m : ME} : sSetFld i cc f m τ = (m τ).s fun d τ1 => fldS i cc f (τ1.getD i none) d τ1 := rfl
theorem x_setFd1 {cc f : Str} {ns : List Str} (h : ns.length < 999) : fldS i cc f (some (.obj true cc ns ds)) d τ = .nx (τ.set i (some (putFld f d cc ns ds))) := by
  unfold fldS; exact if_pos ⟨rfl, h⟩
theorem x_makeI {cc : Str} {g : List D → CR2} {m : MA} : eMakeI cc g m τ = (m τ).bind fun ds τ1 => mkI (g (.obj true cc [] [] :: freezeL ds)) τ1 := rfl
theorem x_makeI1 : mkI (.ok .non [d]) τ = .ok d τ := rfl
theorem x_methI {cc m : Str} {g : List D → CR2} {ma : MA} : eMethI cc m g i ma τ = if methOk cc m (τ.getD i none) = true then (ma τ).bind fun ds τ1 => methI1 (τ1.getD i none) g i ds τ1 else .bad := rfl
theorem x_methI1 {g : List D → CR2} : methI1 (some d) g i ds τ = methI2 (g (d :: freezeL ds)) i (τ.set i none) := rfl
theorem x_methI2 {o : D} : methI2 (.ok d [o]) i τ = .ok d (τ.set i (some o)) := rfl
theorem x_mz0 {As : List (Str × (List D → CR))} {m : Str} : eMethZ0 As m i τ = mz0A As m (τ.getD i none) τ := rfl
theorem x_mz01 {As : List (Str × (List D → CR))} {m cc : Str} {b : Bool} {ns : List Str} : mz0A As m (some (.obj b cc ns ds)) τ = mz0B (As.lookup cc) m b cc ns ds τ := rfl
theorem x_mz02 {g : List D → CR} {m cc : Str} {b : Bool} {ns : List Str} : mz0B (some g) m b cc ns ds τ = if ns.contains m = true then .bad else lendR0 (g (freezeL [.obj b cc ns ds])) τ := rfl
theorem x_mz03 : lendR0 (.ok d) τ = if clean d = true then .ok d τ else .bad := rfl
theorem x_m0 {As : List (Str × (List D → CR))} {m : Str} : eMeth0 As m i τ = m0A As m (τ.getD i none) i τ := rfl
theorem x_m01 {As : List (Str × (List D → CR))} {m cc : Str} {b : Bool} {ns : List Str} : m0A As m (some (.obj b cc ns ds)) i τ = m0B (As.lookup cc) m b cc ns ds i τ := rfl
theorem x_m02 {g : List D → CR} {m cc : Str} {b : Bool} {ns : List Str} : m0B (some g) m b cc ns ds i τ = if ns.contains m = true then .bad else m0C (g [freeze (.obj b cc ns ds)]) i τ := rfl
theorem x_m03 : m0C (.ok d) i τ = .ok d (τ.set i none) := rfl
theorem x_fz_objt {cc : Str} {ns : List Str} : isFz (.obj true cc ns ds) = false := rfl
theorem x_fr_objt {cc : Str} {ns : List Str} : freeze (.obj true cc ns ds) = .obj false cc ns (freezeL ds) := rfl
end
end Bn
namespace Bn
open PySem L2
structure Ok (n : Nat) (d : D) : Prop where
  h : hasP d = true
  l : (toP d).canLay0 = true
  d : (toP d).depth ≤ n
theorem ok_int {n : Nat} (i : Int) : Ok n (.int i) := ⟨rfl, by simp [toP, PyData.canLay0], by simp [toP, PyData.depth]⟩
theorem ok_str {n : Nat} {i : Str} (h : PyData.strOk i = true) : Ok n (.str i) := ⟨rfl, by simpa [toP, PyData.canLay0] using h, by simp [toP, PyData.depth]⟩
theorem ok_all {n : Nat} : ∀ {ds : List D}, (∀ d ∈ ds, Ok n d) → hasPs ds = true ∧ PyData.canLayAll0 (toPs ds) = true ∧ PyData.depthAll (toPs ds) ≤ n
  | [], _ => ⟨rfl, rfl, Nat.zero_le _⟩
  | d :: ds, h => by
    obtain ⟨h1, h2, h3⟩ := h d List.mem_cons_self
    obtain ⟨k1, k2, k3⟩ := ok_all fun e he => h e (List.mem_cons_of_mem _ he)
    refine ⟨?_, ?_, ?_⟩
    · show (hasP d && hasPs ds) = true
      rw [h1, k1]; rfl
    · show PyData.canLayAll0 (toP d :: toPs ds) = true
      simp [PyData.canLayAll0, h2, k2]
    · show PyData.depthAll (toP d :: toPs ds) ≤ n
      simp only [PyData.depthAll]
      omega
theorem ok_tup {n : Nat} {ds : List D} (h : ∀ d ∈ ds, Ok n d) : Ok (n + 1) (.tup ds) := by
  obtain ⟨h1, h2, h3⟩ := ok_all h
  exact ⟨h1, by simpa [toP, PyData.canLay0] using h2, by simp only [toP, PyData.depth]; omega⟩
theorem ok_lst {n : Nat} {b : Bool} {ds : List D} (h : ∀ d ∈ ds, Ok n d) : Ok (n + 1) (.lst b ds) := by
  obtain ⟨h1, h2, h3⟩ := ok_all h
  exact ⟨h1, by simpa [toP, PyData.canLay0] using h2, by simp only [toP, PyData.depth]; omega⟩
theorem Ok.p {n : Nat} {d : D} (h : Ok n d) (hn : n ≤ 64 := by decide) : okP d = true := by
  unfold okP SeqAt.shaped
  rw [h.h, h.l, decide_eq_true (Nat.le_trans h.d hn)]; rfl
theorem eqP_self {n : Nat} {a b : D} (h : Ok n a) (e : toP b = toP a) : eqP a b = true := by
  unfold eqP
  rw [e]
  exact SeqAt.eqv_refl _ h.l
theorem vEqX {n : Nat} {a b : D} (h : Ok n a) (k : Ok n b) (e : toP b = toP a) (hn : n ≤ 64 := by decide) : gEq a b = some (.bl true) := by
  unfold gEq
  rw [if_pos ⟨h.p hn, k.p hn⟩, eqP_self h e]
theorem vNeX {n : Nat} {a b : D} (h : Ok n a) (k : Ok n b) (e : toP b = toP a) (hn : n ≤ 64 := by decide) : gNe a b = some (.bl false) := by
  unfold gNe
  rw [if_pos ⟨h.p hn, k.p hn⟩, eqP_self h e]; rfl
section
variable {g : D → Env → Option Env} {b : MS} {own : List Nat} {t : MT} {m : ME}
def All2 (P : D → D → Prop) : List D → List D → Prop
  | [], [] => True
  | x :: xs, y :: ys => P x y ∧ All2 P xs ys
  | _, _ => False
theorem All2.length {P : D → D → Prop} : ∀ {xs ys : List D}, All2 P xs ys → xs.length = ys.length
  | [], [], _ => rfl
  | _ :: _, [], h => h.elim
  | [], _ :: _, h => h.elim
  | _ :: _, _ :: _, h => by rw [List.length_cons, List.length_cons, h.2.length]
theorem All2.right {P : D → D → Prop} {Q : D → Prop} (hP : ∀ d e, P d e → Q e) : ∀ {items es : List D}, All2 P items es → ∀ e ∈ es, Q e
  | [], [], _ => by simp
  | _ :: _, [], h => h.elim
  | [], _ :: _, h => h.elim
  | d :: _, e :: es, ⟨h1, h2⟩ => by
    intro x hx
    rcases List.mem_cons.mp hx with rfl | hx
    · exact hP _ _ h1
    · exact All2.right hP h2 x hx
end
theorem fz_map {α : Type} {f : α → D} (h : ∀ p, freeze (f p) = f p) : ∀ xs : List α, freezeL (xs.map f) = xs.map f
  | [] => rfl
  | x :: xs => by rw [List.map_cons, x_fL1, h, fz_map h xs]
section
variable {ma : MA} {g : D → Env → Option Env} {b : MS} {own : List Nat} {t : MT} {m : ME} {τ τ1 τ2 : Env}
end
theorem vIxL_of {b : Bool} {xs : List D} {i : Int} {d : D} {k : Nat} (e : i = (k : Nat)) (h : xs[k]? = some d) : gIx (.lst b xs) (.int i) = some d := by
  subst e; rw [vIxL, h]
end Bn
namespace Bn
open PySem PySem.Spec PyProof.Rows L2
open HandSHeadRun (frNat frNat_eq)
end Bn
namespace Bn
open PySem PySem.Spec PyProof.Rows L2
section
variable {X : Cx} {B : Bx} {W : WX}
end
end Bn
namespace Bn
open PySem PySem.Spec PyProof.Rows L2
inductive N (α : Type) where
  | ok (a : α) | ex (c : Str) | bad
inductive NS (σ κ ρ : Type) where
  | nx (s : σ) | bk (l : κ) | ct (l : κ) | rt (r : ρ) | ex (c : Str) | bad
def N.bind {α β : Type} : N α → (α → N β) → N β
  | .ok a, k => k a
  | .ex c, _ => .ex c
  | .bad, _ => .bad
def N.s {α σ κ ρ : Type} : N α → (α → NS σ κ ρ) → NS σ κ ρ
  | .ok a, k => k a
  | .ex c, _ => .ex c
  | .bad, _ => .bad
def NS.s {σ σ' κ ρ : Type} : NS σ κ ρ → (σ → NS σ' κ ρ) → NS σ' κ ρ
  | .nx a, k => k a
  | .bk l, _ => .bk l
  | .ct l, _ => .ct l
  | .rt r, _ => .rt r
  | .ex c, _ => .ex c
  | .bad, _ => .bad
def NS.f {σ κ ρ : Type} : NS σ κ ρ → N ρ
  | .rt r => .ok r
  | .ex c => .ex c
  | _ => .bad
def NS.fz {σ κ ρ : Type} (z : ρ) : NS σ κ ρ → N ρ
  | .rt r => .ok r
  | .nx _ => .ok z
  | .ex c => .ex c
  | _ => .bad
def N.o {α : Type} : Option α → N α
  | some a => .ok a
  | none => .bad
theorem N.s_ex {α σ κ ρ : Type} (c : Str) (k : α → NS σ κ ρ) : (N.ex c).s k = .ex c := rfl
theorem NS.s_ex {σ σ' κ ρ : Type} (c : Str) (k : σ → NS σ' κ ρ) : (NS.ex c).s k = .ex c := rfl
abbrev EP (α : Type) := α → D → Prop
abbrev EL (α : Type) := α → List D → Prop
inductive Al {α : Type} (e : EP α) : List α → List D → Prop
  | nil : Al e [] []
  | cons {x : α} {d : D} {xs : List α} {ds : List D} : e x d → Al e xs ds → Al e (x :: xs) (d :: ds)
def eI : EP Int := fun i d => d = .int i
def Zf {α : Type} (e : EP α) : Prop := ∀ x d, e x d → isFz d = true
def Fz {α : Type} (e e' : EP α) : Prop := ∀ x d, e x d → e' x (freeze d)
theorem freeze_of {d : D} (h : isFz d = true) : freeze d = d := by
  cases d with
  | lst m xs => cases m with
    | true => cases h
    | false => rfl
  | obj m c ns xs => cases m with
    | true => cases h
    | false => rfl
  | dct m ks xs => cases m with
    | true => cases h
    | false => rfl
  | tpo xs => cases h
  | _ => rfl
theorem Al.fz {α : Type} {e e' : EP α} (h : Fz e e') : ∀ {xs : List α} {ds : List D}, Al e xs ds → Al e' xs (freezeL ds)
  | _, _, .nil => .nil
  | _, _, .cons a b => .cons (h _ _ a) (b.fz h)
theorem Al.length {α : Type} {e : EP α} : ∀ {xs : List α} {ds : List D}, Al e xs ds → ds.length = xs.length
  | _, _, .nil => rfl
  | _, _, .cons _ b => congrArg (· + 1) b.length
theorem Al.append {α : Type} {e : EP α} : ∀ {xs ys : List α} {ds es : List D}, Al e xs ds → Al e ys es → Al e (xs ++ ys) (ds ++ es)
  | _, _, _, _, .nil, k => k
  | _, _, _, _, .cons a b, k => .cons a (b.append k)
theorem Al.imp {α : Type} {e e' : EP α} (h : ∀ x d, e x d → e' x d) : ∀ {xs : List α} {ds : List D}, Al e xs ds → Al e' xs ds
  | _, _, .nil => .nil
  | _, _, .cons a b => .cons (h _ _ a) (b.imp h)
theorem Al.drop {α : Type} {e : EP α} : ∀ (n : Nat) {xs : List α} {ds : List D}, Al e xs ds → Al e (xs.drop n) (ds.drop n)
  | 0, _, _, h => h
  | _ + 1, _, _, .nil => .nil
  | n + 1, _, _, .cons _ b => b.drop n
theorem Al.take {α : Type} {e : EP α} : ∀ (n : Nat) {xs : List α} {ds : List D}, Al e xs ds → Al e (xs.take n) (ds.take n)
  | 0, _, _, h => .nil
  | _ + 1, _, _, .nil => .nil
  | n + 1, _, _, .cons a b => .cons a (b.take n)
theorem Al.get {α : Type} {e : EP α} : ∀ (n : Nat) {xs : List α} {ds : List D} {x : α}, Al e xs ds → xs[n]? = some x → ∃ d, ds[n]? = some d ∧ e x d
  | _, _, _, _, .nil, h => by simp at h
  | 0, _, _, _, .cons a b, h => by simp at h; subst h; exact ⟨_, rfl, a⟩
  | n + 1, _, _, _, .cons a b, h => by simpa using b.get n (by simpa using h)
theorem Al.ints {ns : List Int} {ds : List D} (h : Al eI ns ds) : ds = ns.map D.int := by
  induction h with
  | nil => rfl
  | cons a b ih => rw [show _ = _ from a, ih]; rfl
inductive Slot : Type 1
  | any
  | val {α : Type} (e : EP α) (x : α)
def Slot.h : Slot → Option D → Prop
  | .any, _ => True
  | .val e x, o => ∃ d, o = some d ∧ e x d
def Is : List Slot → Env → Prop
  | [], τ => τ = []
  | p :: ps, τ => ∃ o r, τ = o :: r ∧ p.h o ∧ Is ps r
def nth : List Slot → Nat → Slot
  | [], _ => .any
  | p :: _, 0 => p
  | _ :: ps, n + 1 => nth ps n
def put : List Slot → Nat → Slot → List Slot
  | [], _, _ => []
  | _ :: ps, 0, q => q :: ps
  | p :: ps, n + 1, q => p :: put ps n q
theorem Is.get {α : Type} {e : EP α} {x : α} : ∀ {G : List Slot} {τ : Env} {i : Nat}, Is G τ → nth G i = .val e x → ∃ d, τ.getD i none = some d ∧ e x d
  | [], _, _, _, q => by cases q
  | p :: ps, _, 0, ⟨o, r, h, h1, _⟩, q => by
    have q : p = .val e x := q
    subst q; subst h
    exact h1
  | p :: ps, _, n + 1, ⟨o, r, h, _, h2⟩, q => by
    subst h
    exact Is.get (i := n) h2 q
theorem Is.put {q : Slot} {o : Option D} (hq : q.h o) : ∀ {G : List Slot} {τ : Env} (i : Nat), Is G τ → Is (put G i q) (τ.set i o)
  | [], _, _, h => by rw [show _ = [] from h]; exact rfl
  | p :: ps, _, 0, ⟨_, r, h, h1, h2⟩ => by subst h; exact ⟨o, r, rfl, hq, h2⟩
  | p :: ps, _, n + 1, ⟨_, r, h, h1, h2⟩ => by subst h; exact ⟨_, _, rfl, h1, Is.put hq n h2⟩
theorem Is.len : ∀ {G : List Slot} {τ : Env}, Is G τ → τ.length = G.length
  | [], _, h => by rw [show _ = [] from h]; rfl
  | p :: ps, _, ⟨_, r, h, h1, h2⟩ => by subst h; exact congrArg (· + 1) h2.len
def Sat {α β : Type} (r : R β) (v : N α) (P : α → β → Env → Prop) (X : Env → Prop) : Prop := match v with
  | .ok a => ∃ d τ', r = .ok d τ' ∧ P a d τ'
  | .ex c => ∃ τ', r = .ex c τ' ∧ X τ'
  | .bad => True
theorem Sat.bind {α β α' β' : Type} {r : R β} {v : N α} {P : α → β → Env → Prop} {X : Env → Prop} {k : β → Env → R β'} {w : α → N α'} {Q : α' → β' → Env → Prop} (h : Sat r v P X) (q : ∀ a d τ, P a d τ → Sat (k d τ) (w a) Q X) : Sat (r.bind k) (v.bind w) Q X := by
  cases v with
  | ok a =>
    obtain ⟨d, τ', e, p⟩ := h
    rw [e]
    exact q a d τ' p
  | ex c =>
    obtain ⟨τ', e, p⟩ := h
    rw [e]
    exact ⟨τ', rfl, p⟩
  | bad => trivial
section
variable {α β γ : Type} {G G1 G2 G' : List Slot} {X : Env → Prop}
def N.and (v w : N Bool) : N Bool := v.bind fun a => if a = true then w else .ok false
def N.or (v w : N Bool) : N Bool := v.bind fun a => if a = true then .ok true else w
def N.not (v : N Bool) : N Bool := v.bind fun a => .ok !a
def SatC {γ : Type} (r : CR) (v : N γ) (e : EP γ) : Prop := match v with
  | .ok a => ∃ d, r = .ok d ∧ e a d
  | .ex c => r = .ex c
  | .bad => True
def VF (f : List D → CR) (n : α → N γ) (ea : EL α) (er : EP γ) : Prop := ∀ a ds, ea a ds → SatC (f ds) (n a) er
end
end Bn
namespace Bn
open PySem PySem.Spec PyProof.Rows L2
@[irreducible] def N.range (n : Int) : N (List Int) := if -(2 ^ 62) ≤ n ∧ n < 2 ^ 62 then .ok ((List.range n.toNat).map fun k : Nat => (k : Int)) else .bad
@[irreducible] def N.rangeN (i j : Int) : N (List Int) := if -(2 ^ 62) ≤ i ∧ i < 2 ^ 62 ∧ -(2 ^ 62) ≤ j ∧ j < 2 ^ 62 then .ok ((List.range (i - j).toNat).map fun k : Nat => i + (k : Int) * (-1)) else .bad
section
variable {α β γ : Type} {G G1 G2 G' : List Slot} {X : Env → Prop}
theorem Al.rev {e : EP α} : ∀ {xs : List α} {ds : List D}, Al e xs ds → Al e xs.reverse ds.reverse
  | _, _, .nil => .nil
  | _, _, .cons a b => by rw [List.reverse_cons, List.reverse_cons]; exact b.rev.append (.cons a .nil)
end
section
variable {α β γ σ σ' κ ρ : Type} {G G1 G2 : List Slot} {G' : σ → List Slot} {L : κ → List Slot} {er : ρ → D → Env → Prop} {X : Env → Prop}
def SatS (r : SR) (n : NS σ κ ρ) (G' : σ → List Slot) (L : κ → List Slot) (er : ρ → D → Env → Prop) (X : Env → Prop) : Prop := match n with
  | .nx s => ∃ τ', r = .nx τ' ∧ Is (G' s) τ'
  | .bk l => ∃ τ', r = .bk τ' ∧ Is (L l) τ'
  | .ct l => ∃ τ', r = .ct τ' ∧ Is (L l) τ'
  | .rt a => ∃ d τ', r = .rt d τ' ∧ er a d τ'
  | .ex c => ∃ τ', r = .ex c τ' ∧ X τ'
  | .bad => True
theorem Sat.s {β' : Type} {r : R β} {v : N α} {P : α → β → Env → Prop} {k : β → Env → SR} {w : α → NS σ κ ρ} (h : Sat r v P X) (q : ∀ a d τ, P a d τ → SatS (k d τ) (w a) G' L er X) : SatS (r.s k) (v.s w) G' L er X := by
  cases v with
  | ok a =>
    obtain ⟨d, τ', e, p⟩ := h
    rw [e]
    exact q a d τ' p
  | ex c =>
    obtain ⟨τ', e, p⟩ := h
    rw [e]
    exact ⟨τ', rfl, p⟩
  | bad => trivial
theorem Sat.sSeq {β' : Type} {r : R β} {v : N α} {P : α → β → Env → Prop} {k : β → Env → SR} {b : MS} {w : α → NS σ κ ρ} (h : Sat r v P X) (q : ∀ a d τ, P a d τ → SatS (Bn.sSeq (fun _ => k d τ) b τ) (w a) G' L er X) : SatS (Bn.sSeq (fun _ => r.s k) b []) (v.s w) G' L er X := by
  cases v with
  | ok a =>
    obtain ⟨d, τ', e, p⟩ := h
    rw [e]
    exact q a d τ' p
  | ex c =>
    obtain ⟨τ', e, p⟩ := h
    rw [e]
    exact ⟨τ', rfl, p⟩
  | bad => trivial
theorem SatS.seq {r : SR} {n : NS σ' κ ρ} {G1 : σ' → List Slot} {b : MS} {k : σ' → NS σ κ ρ} (h : SatS r n G1 L er X) (q : ∀ s τ, Is (G1 s) τ → SatS (b τ) (k s) G' L er X) : SatS (Bn.sSeq (fun _ => r) b []) (n.s k) G' L er X := by
  cases n with
  | nx s => obtain ⟨τ', e, p⟩ := h; rw [e]; exact q s τ' p
  | bk s => obtain ⟨τ', e, p⟩ := h; rw [e]; exact ⟨τ', rfl, p⟩
  | ct s => obtain ⟨τ', e, p⟩ := h; rw [e]; exact ⟨τ', rfl, p⟩
  | rt s => obtain ⟨d, τ', e, p⟩ := h; rw [e]; exact ⟨d, τ', rfl, p⟩
  | ex s => obtain ⟨τ', e, p⟩ := h; rw [e]; exact ⟨τ', rfl, p⟩
  | bad => trivial
theorem Al.set {e : EP α} : ∀ {xs : List α} {ds : List D} (j : Nat) {a : α} {d : D}, Al e xs ds → e a d → Al e (xs.set j a) (ds.set j d)
  | _, _, _, _, _, .nil, _ => .nil
  | _, _, 0, _, _, .cons _ b, h => .cons h b
  | _, _, j + 1, _, _, .cons a b, h => .cons a (b.set j h)
end
section
variable {α β γ : Type} {G G1 G2 GI : List Slot} {X : Env → Prop}
end
section
variable {α β γ σ κ ρ : Type} {er : EP ρ}
theorem is_any : ∀ k : Nat, Is (List.replicate k Slot.any) (List.replicate k none)
  | 0 => rfl
  | k + 1 => ⟨none, _, rfl, True.intro, is_any k⟩
inductive Ini : List Slot → List D → Prop
  | nil : Ini [] []
  | cons {α : Type} {e : EP α} {x : α} {d : D} {G : List Slot} {ds : List D} : e x d → Ini G ds → Ini (.val e x :: G) (d :: ds)
theorem Ini.is : ∀ {G : List Slot} {ds : List D} (k : Nat), Ini G ds → Is (G ++ List.replicate k Slot.any) (ds.map some ++ List.replicate k none)
  | _, _, k, .nil => is_any k
  | _, _, k, .cons a b => ⟨_, _, rfl, ⟨_, rfl, a⟩, b.is k⟩
theorem Ini.len {G : List Slot} {ds : List D} (h : Ini G ds) : ds.length = G.length := by
  induction h with
  | nil => rfl
  | cons _ _ ih => exact congrArg (· + 1) ih
theorem Ini.app {G G' : List Slot} {ds es : List D} (h : Ini G ds) (k : Ini G' es) : Ini (G ++ G') (ds ++ es) := by
  induction h with
  | nil => exact k
  | cons a _ ih => exact .cons a ih
def NS.fi {κ : Type} : NS (ρ × α) κ (ρ × α) → N (ρ × α)
  | .rt r => .ok r
  | .nx o => .ok o
  | _ => .bad
end
end Bn
namespace Bn
open PySem PySem.Spec PyProof.Rows L2
def CMulA (i j : Int) : Prop := CMulW i j ∨ CMul i j
instance {i j : Int} : Decidable (CMul i j) := by unfold CMul; infer_instance
instance {i j : Int} : Decidable (CMulA i j) := by unfold CMulA; infer_instance
theorem op_mulA {X : Cx} : OpR X (binaryOp .Mult) (rI CMulA fun i j => .int (i * j)) := opI fun _ _ _ _ _ _ _ hc q => mul_int q (hc.elim (·.ok) (·.ok))
def gMulA : D → D → Option D := gIC CMulA fun i j => .int (i * j)
theorem sMulA {K : PySem.W.Frag} : OpS K (rI CMulA fun i j => .int (i * j)) gMulA := opS_IC fun _ _ _ _ => rfl
@[irreducible] def N.mod (i j : Int) : N Int := if 0 < j then .ok (i % j) else .bad
@[irreducible] def N.pow (i j : Int) : N Int := if CPow i j then .ok (i ^ j.toNat) else .bad
@[irreducible] def N.ix {α : Type} (xs : List α) (i : Int) : N α := N.o (atI xs i)
@[irreducible] def N.slen (z : Str) : N Int := if z.length ≤ 1000000 then .ok (z.length : Nat) else .bad
@[irreducible] def N.str (i : Int) : N Str := if i.natAbs.log2 < 1920 then .ok (toString i) else .bad
@[irreducible] def N.join (z : Str) (ys : List Str) : N Str := if (ys.map (·.length)).sum + ys.length * z.length ≤ 1000000 then .ok (Txt.join z ys) else .bad
section
variable {α β γ : Type} {e : EP α}
section
variable {G G1 G2 G3 G4 : List Slot} {X : Env → Prop}
theorem Al.cut {xs : List α} {ds : List D} (h : Al e xs ds) (lo hi : Option Int) : Al e (cutL xs lo hi) (cutL ds lo hi) := by
  unfold cutL
  rw [h.length]
  exact (h.drop _).take _
end
section
variable {σ κ ρ : Type}
def N.gv (v : N α) (Q : α → Prop) : Prop := ∃ y, v = .ok y ∧ Q y
def NS.gv (n : NS σ κ ρ) (Qn : σ → Prop) (Qr : ρ → Prop) : Prop := (∃ s, n = .nx s ∧ Qn s) ∨ ∃ r, n = .rt r ∧ Qr r
end
end
end Bn
namespace Bn
open PySem PySem.Spec PyProof.Rows L2
section
variable {α β γ S S' : Type} {G G1 G2 : List Slot} {X : Env → Prop}
section
variable {σ κ ρ : Type} {G' : σ → List Slot} {L : κ → List Slot} {er : ρ → D → Env → Prop}
end
end
end Bn
namespace PySem
section
variable {prog : Program} {w : World} {A : Around} {E : Value → Shared → Prop} {s : Shared} {l : Addr} {xs : Array (Int × Tok)}
end
end PySem
namespace Bn
open PySem PySem.Spec PyProof.Rows L2
section
variable {X : Cx} {B : Bx} {W : WX}
end
@[irreducible] def N.split (z y : Str) : N (List Str) := if y.length ≠ 0 ∧ z.length ≤ 1000000 then .ok (Txt.split z y) else .bad
@[irreducible] def N.int (z : Str) : N Int := if z.length ≤ 640 then N.o (intText? z) else .bad
section
variable {α β γ : Type} {G G1 G2 : List Slot} {X : Env → Prop}
theorem all_fz {e : EP α} (z : Zf e) : ∀ {xs : List α} {ds : List D}, Al e xs ds → ds.all isFz = true
  | _, _, .nil => rfl
  | _, _, .cons a b => by rw [List.all_cons, z _ _ a, all_fz z b]; rfl
def NS.tr {σ κ ρ : Type} (b : NS σ κ ρ) (sub : Str → Option Bool) (su : Str → NS σ κ ρ) : NS σ κ ρ := match b with
  | .ex c => (match sub c with
    | some true => (match su c with
      | .ex _ => .bad
      | r => r)
    | some false => .ex c
    | none => .bad)
  | r => r
section
variable {σ σ' κ ρ : Type} {G' : σ → List Slot} {L : κ → List Slot} {er : ρ → D → Env → Prop}
end
theorem VF.ok {f : List D → CR} {n : α → N γ} {ea : EL α} {er : EP γ} (h : VF f n ea er) {a : α} {ds : List D} {b : γ} (k : ea a ds) (q : n a = .ok b) : ∃ d, f ds = .ok d ∧ er b d := by
  have := h a ds k
  rw [q] at this
  exact this
end
section
variable {X : Cx} {B : Bx} {W : WX}
end
section
variable {α β γ S σ κ ρ : Type} {G G1 : List Slot} {X : Env → Prop} {G' : σ → List Slot} {L : κ → List Slot} {er : ρ → D → Env → Prop}
end
section
variable {α : Type} {G G1 : List Slot} {X : Env → Prop}
end
end Bn
namespace Bn
open PySem PySem.Spec PyProof.Rows L2 PySem.W
section
variable {X : Cx}
end
section
variable {X : Cx} {B : Bx} {W : WX}
end
section
variable {X : Cx} {B : Bx} {W : WX}
end
section
variable {α : Type} {G G1 : List Slot} {X : Env → Prop}
end
section
variable {α β : Type} {G GI : List Slot} {X : Env → Prop}
end
end Bn
namespace Bn
open PySem PySem.Spec PyProof.Rows L2
def keyD : D → Option Key
  | .int i => some (.inl i)
  | .str s => some (.inr s)
  | _ => none
section
variable {K : PySem.W.Frag} {ca : Str → Addr} {F H : Hp}
end
section
variable {X : Cx} {B : Bx} {W : WX}
end
section
variable {κ α β ρ σ κ' : Type} [DecidableEq κ] {G G1 : List Slot} {X : Env → Prop}
structure KeyE (ek : EP κ) (kf : κ → Key) : Prop where
  k : ∀ x d, ek x d → keyD d = some (kf x)
  i : ∀ x y, kf x = kf y → x = y
variable {G' : σ → List Slot} {L : κ' → List Slot} {er : ρ → D → Env → Prop}
end
end Bn
namespace Bn
open PySem PySem.Spec PyProof.Rows L2
universe u
inductive CR3 where
  | ok (d : D) (outs : Env)
  | ex (c : Str) (outs : Env)
  | bad
def pick {α : Type u} : List Bool → List α → List α
  | true :: m, x :: xs => x :: pick m xs
  | false :: m, _ :: xs => pick m xs
  | _, _ => []
def ioM : Nat → List Bool → List V → List (Nat × V)
  | j, true :: m, u :: us => (j, u) :: ioM (j + 1) m us
  | j, false :: m, _ :: us => ioM (j + 1) m us
  | _, _, _ => []
structure Fra (F F' H H' : Hp) (f g : Ct) : Prop where
  ff : Same F F'
  fh : Same F' H'
  hh : ∀ a o, f a = 0 → H a = some o → H' a = some o
  nd : ∀ a, g a ≤ 1
  dF : ∀ a, 0 < g a → F' a = none ∧ (H a = none ∨ 0 < f a)
  fr : ∀ a, F' a ≠ none → F a ≠ none ∨ H a = none ∨ 0 < f a
def spG (K : PySem.W.Frag) (ca : Str → Addr) (mask : List Bool) (g : List D → CR3) : Sp := fun vs H Q E => ∃ F f as, RepOs K ca F H as vs f ∧ Same F H ∧ (∀ a, f a ≤ 1) ∧ (∀ a, 0 < f a → F a = none) ∧
  match g as with
  | .ok d outs => ∀ v F' H' g1 g2, Fra F F' H H' f (fun b => g1 b + g2 b) → RepO K ca F' H' d v g1 → Sl K ca F' H' outs ((pick mask vs).map some) g2 → Q v H'
  | .ex c outs => ∀ F' H' g2, Fra F F' H H' f g2 → Sl K ca F' H' outs ((pick mask vs).map some) g2 → E (.ref (ca c)) none H'
  | .bad => False
structure FoG (P : Program) (w : World) (K : PySem.W.Frag) (mg : Str → Option Value) (base : Heap) (ca : Str → Addr) (k : Nat) (x : Str) (mask : List Bool) (g : List D → CR3) : Prop where
  ex : ∃ f fd ps, mg x = some (.ref f) ∧ PySem.W.keepIn K (.ref f) = true ∧ Binds K fd ps [] ∧ FnOk P w K mg base (L2.CX P w) k f fd ps (spG K ca mask g)
def callFG (n N : Nat) (mask : List Bool) (b : MS) : List D → CR3 := fun ds => if ds.length = n then (match b (ds.map some ++ List.replicate (N - n) none) with
  | .nx τ => .ok .non (pick mask τ)
  | .rt d τ => .ok d (pick mask τ)
  | .ex c τ => .ex c (pick mask τ)
  | _ => .bad) else .bad
section
variable {K : PySem.W.Frag} {ca : Str → Addr} {F H : Hp}
theorem sl_startG {k : Nat} : ∀ {as : List D} {vs : List V} {f : Ct}, RepOs K ca F H as vs f → Sl K ca F H (as.map some ++ List.replicate k none) (vs.map some ++ List.replicate k none) f
  | [], vs, f, h => by
    cases (show vs = [] from h.1)
    have e : f = fun _ => 0 := funext h.2
    subst e
    have := sl_start (K := K) (ca := ca) (F := F) (H := H) (ds := []) (vs := []) (k := k) rfl
    exact this
  | d :: ds, _, f, ⟨v, r, f1, f2, e, h1, h2, h3⟩ => by
    subst e
    exact ⟨v, _, f1, f2, rfl, h1, sl_startG h2, h3⟩
theorem sl_pick : ∀ {m : List Bool} {τ : Env} {σ : L2.St} {f : Ct}, Sl K ca F H τ σ f → ∃ g, Sl K ca F H (pick m τ) (pick m σ) g ∧ ∀ b, g b ≤ f b
  | [], τ, σ, f, h => ⟨fun _ => 0, by cases τ <;> cases σ <;> exact ⟨rfl, fun _ => rfl⟩, fun _ => Nat.zero_le _⟩
  | x :: m, [], σ, f, h => by
    obtain ⟨rfl, _⟩ := h
    exact ⟨fun _ => 0, by cases x <;> exact ⟨rfl, fun _ => rfl⟩, fun _ => Nat.zero_le _⟩
  | true :: m, none :: τ, _, f, ⟨x, r, rfl, h2⟩ => by
    obtain ⟨g, k1, k2⟩ := sl_pick (m := m) h2
    exact ⟨g, ⟨x, pick m r, rfl, k1⟩, k2⟩
  | false :: m, none :: τ, _, f, ⟨x, r, rfl, h2⟩ => by
    obtain ⟨g, k1, k2⟩ := sl_pick (m := m) h2
    exact ⟨g, k1, k2⟩
  | true :: m, some d :: τ, _, f, ⟨v, r, f1, f2, rfl, h2, h3, h4⟩ => by
    obtain ⟨g, k1, k2⟩ := sl_pick (m := m) h3
    exact ⟨fun b => f1 b + g b, ⟨v, pick m r, f1, g, rfl, h2, k1, fun _ => rfl⟩, fun b => by show f1 b + g b ≤ f b; have := k2 b; rw [h4]; omega⟩
  | false :: m, some d :: τ, _, f, ⟨v, r, f1, f2, rfl, h2, h3, h4⟩ => by
    obtain ⟨g, k1, k2⟩ := sl_pick (m := m) h3
    exact ⟨g, k1, fun b => by have := k2 b; rw [h4]; omega⟩
theorem ioM_get : ∀ {m : List Bool} {us : List V} {j : Nat} {p : Nat × V}, p ∈ ioM j m us → j ≤ p.1 ∧ us[p.1 - j]? = some p.2
  | [], us, j, p, h => by cases us <;> cases h
  | x :: m, [], j, p, h => by cases x <;> cases h
  | true :: m, u :: us, j, p, h => by
    rcases List.mem_cons.mp h with rfl | h
    · exact ⟨Nat.le_refl _, by simp⟩
    · obtain ⟨h1, h2⟩ := ioM_get h
      refine ⟨by omega, ?_⟩
      rw [show p.1 - j = (p.1 - (j + 1)) + 1 by omega, List.getElem?_cons_succ]
      exact h2
  | false :: m, u :: us, j, p, h => by
    obtain ⟨h1, h2⟩ := ioM_get (j := j + 1) h
    refine ⟨by omega, ?_⟩
    rw [show p.1 - j = (p.1 - (j + 1)) + 1 by omega, List.getElem?_cons_succ]
    exact h2
theorem ioM_snd : ∀ (m : List Bool) (us : List V) (j : Nat), (ioM j m us).map Prod.snd = pick m us
  | [], us, j => by cases us <;> rfl
  | x :: m, [], j => by cases x <;> rfl
  | true :: m, u :: us, j => congrArg (u :: ·) (ioM_snd m us (j + 1))
  | false :: m, u :: us, j => ioM_snd m us (j + 1)
theorem io_pick {σ : L2.St} : ∀ {m : List Bool} {us : List V} {j : Nat}, (∀ p ∈ ioM j m us, σ[p.1]? = some (some p.2)) → m.length = us.length → pick m (σ.drop j) = (pick m us).map some
  | [], us, j, _, hl => by
    cases us with
    | nil => cases σ.drop j <;> rfl
    | cons _ _ => cases hl
  | x :: m, [], j, _, hl => by cases hl
  | true :: m, u :: us, j, h, hl => by
    have h0 : σ[j]? = some (some u) := h (j, u) List.mem_cons_self
    have hj : j < σ.length := (List.getElem?_eq_some_iff.mp h0).1
    rw [List.drop_eq_getElem_cons hj]
    have e : σ[j] = some u := by
      rw [List.getElem?_eq_getElem hj] at h0
      exact Option.some.inj h0
    show σ[j] :: pick m (σ.drop (j + 1)) = some u :: (pick m us).map some
    rw [e, io_pick (fun p hp => h p (List.mem_cons_of_mem _ hp)) (by simpa using hl)]
  | false :: m, u :: us, j, h, hl => by
    by_cases hj : j < σ.length
    · rw [List.drop_eq_getElem_cons hj]
      show pick m (σ.drop (j + 1)) = (pick m us).map some
      exact io_pick h (by simpa using hl)
    · rw [List.drop_eq_nil_of_le (by omega)]
      have e : ioM j (false :: m) (u :: us) = [] := by
        cases q : ioM j (false :: m) (u :: us) with
        | nil => rfl
        | cons p r =>
          have hp : p ∈ ioM j (false :: m) (u :: us) := by rw [q]; exact List.mem_cons_self
          have h1 := (List.getElem?_eq_some_iff.mp (h p hp)).1
          have h2 := (ioM_get hp).1
          omega
      have := ioM_snd (false :: m) (u :: us) j
      rw [e] at this
      rw [← this]; rfl
end
section
variable {P : Program} {w : World} {K : PySem.W.Frag} {mg : Str → Option Value} {base : Heap} {ca : Str → Addr}
theorem fn_okG {x qual : Str} {st : Stmt} {f : Addr} {fd : FuncData} {N ps : List Str} {k : Nat} {mask : List Bool} {b : MS} (F : Fun K x qual st f fd) (S : FnScope N ps (defScope st)) (hm : mask.length = ps.length) (hn : ps.length ≤ N.length)
    (hb : ∀ (cdv : Value) (A : Around) (outer : List PySem.Env) (s : Shared) (H : Hp) (E : XK) (F0 R : Hp) (us : List V), us.length = ps.length → Room k (A.deeper (envOfC qual (defScope st) s.heap.objs.size f cdv)) →
      XOk (cxOf (L2.CX P w) P w K mg base N qual (defScope st) f cdv A outer s H E) (fun cls d _ H => E cls d H) →
      PSs (cxOf (L2.CX P w) P w K mg base N qual (defScope st) f cdv A outer s H E) (defBody st) (rdS K ⟨ca, F0, R, ioM 0 mask us⟩ (fun cls d _ H => E cls d H) b)) :
    FnOk P w K mg base (L2.CX P w) (k + 1) f fd ps (spG K ca mask (callFG ps.length N.length mask b)) := by
  classical
  refine F.okX S (fun vs H Q E h => ?_) (fun cdv A outer s H vs Q E hr h => ?_)
  · obtain ⟨F0, g, as, r1, _, _, _, h⟩ := h
    by_cases e : as.length = ps.length
    · rw [← e, r1.length]
    · unfold callFG at h
      rw [if_neg e] at h
      exact h.elim
  · obtain ⟨F0, g, as, r1, sm, nd, dF, h⟩ := h
    have hl : as.length = ps.length := by
      by_cases e : as.length = ps.length
      · exact e
      · unfold callFG at h
        rw [if_neg e] at h
        exact h.elim
    have ul : vs.length = ps.length := by rw [r1.length]; exact hl
    refine ⟨_, hb cdv A outer s H E F0 (fun a => if 0 < g a then none else H a) vs ul hr ⟨takes_of rfl rfl rfl rfl, passes_of rfl, rfl⟩, ?_⟩
    unfold callFG at h
    rw [if_pos hl] at h
    have hstart : L2.start N vs = vs.map some ++ List.replicate (N.length - ps.length) none := by
      unfold L2.start
      rw [ul]
    have st0 : StT K ⟨ca, F0, (fun a => if 0 < g a then none else H a), ioM 0 mask vs⟩ F0 H (L2.start N vs) (as.map some ++ List.replicate (N.length - ps.length) none) [] [] := by
      refine ⟨g, fun _ => 0, ?_, ⟨rfl, fun _ => rfl⟩, ⟨fun a => nd a, fun a q => dF a q, fun a q => if_pos q, sm, fun a o e => ?_, Same.refl _, fun a q => .inl q⟩, fun p hp => ?_⟩
      · rw [hstart]; exact sl_startG r1
      · replace e : (if 0 < g a then none else H a) = some o := e
        split at e
        · cases e
        · exact e
      · rw [hstart]
        obtain ⟨_, h2⟩ := ioM_get hp
        rw [Nat.sub_zero] at h2
        have hlt := (List.getElem?_eq_some_iff.mp h2).1
        rw [List.getElem?_append_left (by rw [List.length_map]; omega), List.getElem?_map, h2]
        rfl
    refine ⟨F0, _, [], [], st0, ?_⟩
    -- behind the body
    have fin : ∀ (τ : Env) (vs' : List V) (ds' : List D) (σ' : L2.St) (F' H' : Hp), StT K ⟨ca, F0, (fun a => if 0 < g a then none else H a), ioM 0 mask vs⟩ F' H' σ' τ vs' ds' →
        ∃ g1 g2, RepOs K ca F' H' ds' vs' g1 ∧ Sl K ca F' H' (pick mask τ) ((pick mask vs).map some) g2 ∧ Fra F0 F' H H' g (fun b => g1 b + g2 b) ∧ Fra F0 F' H H' g g2 := by
      intro τ vs' ds' σ' F' H' s'
      obtain ⟨f1, f2, hs, hv, w', io⟩ := s'
      obtain ⟨g3, k1, k2⟩ := sl_pick (m := mask) hs
      have ep := io_pick (σ := σ') (m := mask) (us := vs) (j := 0) io (by omega)
      rw [List.drop_zero] at ep
      rw [ep] at k1
      have mk : ∀ g' : Ct, (∀ a, g' a ≤ f1 a + f2 a) → Fra F0 F' H H' g g' := fun g' le => by
        refine ⟨w'.s0, w'.sF, fun a o e1 e2 => w'.sR a o (by show (if 0 < g a then none else H a) = some o; rw [if_neg (by omega)]; exact e2), fun a => Nat.le_trans (le a) (w'.nd a), fun a z => ⟨w'.dF a (Nat.lt_of_lt_of_le z (le a)), ?_⟩, fun a z => ?_⟩
        · have := w'.dR a (Nat.lt_of_lt_of_le z (le a))
          replace this : (if 0 < g a then none else H a) = none := this
          split at this
          · exact .inr (by assumption)
          · exact .inl this
        · rcases w'.fr a z with y | y
          · exact .inl y
          · replace y : (if 0 < g a then none else H a) = none := y
            split at y
            · exact .inr (.inr (by assumption))
            · exact .inr (.inl y)
      exact ⟨f2, g3, hv, k1, mk _ (fun a => by have := k2 a; show f2 a + g3 a ≤ f1 a + f2 a; omega), mk _ (fun a => by have := k2 a; omega)⟩
    have okc : ∀ (d : D) (τ : Env) (v : V) (σ' : L2.St) (F' H' : Hp), (∀ v F' H' g1 g2, Fra F0 F' H H' g (fun b => g1 b + g2 b) → RepO K ca F' H' d v g1 → Sl K ca F' H' (pick mask τ) ((pick mask vs).map some) g2 → Q v H') → StT K ⟨ca, F0, (fun a => if 0 < g a then none else H a), ioM 0 mask vs⟩ F' H' σ' τ [v] [d] → Q v H' := by
      intro d τ v σ' F' H' h s'
      obtain ⟨g1, g2, ⟨_, _, p1, p2, ee, hv, ⟨_, hz⟩, q⟩, k1, k2, _⟩ := fin τ [v] [d] σ' F' H' s'
      cases ee
      have e1 : g1 = p1 := funext fun b => by rw [q, hz]; omega
      subst e1
      exact h v F' H' g1 g2 k2 hv k1
    cases e : b (as.map some ++ List.replicate (N.length - ps.length) none) with
    | nx τ =>
      rw [e] at h
      intro σ' F' H' s'
      exact okc .non τ .non σ' F' H' h (s'.push rfl)
    | rt d τ =>
      rw [e] at h
      intro v σ' F' H' s'
      exact okc d τ v σ' F' H' h s'
    | ex c τ =>
      rw [e] at h
      intro σ' F' H' s'
      obtain ⟨g1, g2, _, k1, _, k3⟩ := fin τ [] [] σ' F' H' s'
      exact h F' H' g2 k3 k1
    | bk τ => rw [e] at h; exact h.elim
    | ct τ => rw [e] at h; exact h.elim
    | bad => rw [e] at h; exact h.elim
end
def mrgB {α : Type} : List Bool → List α → List α → List α
  | true :: m, es, i :: is => i :: mrgB m es is
  | false :: m, e :: es, is => e :: mrgB m es is
  | _, _, _ => []
def cntT : List Bool → Nat
  | [] => 0
  | true :: m => cntT m + 1
  | false :: m => cntT m
def cntF : List Bool → Nat
  | [] => 0
  | true :: m => cntF m
  | false :: m => cntF m + 1
theorem pick_mrg {α : Type} : ∀ {m : List Bool} {es is : List α}, is.length = cntT m → es.length = cntF m → pick m (mrgB m es is) = is
  | [], es, is, h, _ => by
    cases is with
    | nil => rfl
    | cons _ _ => cases h
  | true :: m, es, [], h, _ => by simp [cntT] at h
  | true :: m, es, i :: is, h, k => congrArg (i :: ·) (pick_mrg (m := m) (by simpa [cntT] using h) k)
  | false :: m, [], is, _, k => by simp [cntF] at k
  | false :: m, e :: es, is, h, k => pick_mrg (m := m) h (by simpa [cntF] using k)
section
variable {K : PySem.W.Frag} {ca : Str → Addr} {F H : Hp}
theorem mrg_rep : ∀ {m : List Bool} {es ios : List D} {us vals : List V} {f : Ct}, RepL K ca F es us → RepOs K ca F H ios vals f → ios.length = cntT m → es.length = cntF m → RepOs K ca F H (mrgB m es ios) (mrgB m us vals) f
  | [], es, ios, us, vals, f, h1, h2, l1, l2 => by
    have e1 : ios = [] := List.length_eq_zero_iff.mp l1
    subst e1
    obtain ⟨rfl, hz⟩ := h2
    exact ⟨rfl, hz⟩
  | true :: m, es, [], us, vals, f, h1, h2, l1, l2 => by simp [cntT] at l1
  | true :: m, es, i :: ios, us, _, f, h1, ⟨v, r, f1, f2, rfl, h3, h4, h5⟩, l1, l2 => ⟨v, _, f1, f2, rfl, h3, mrg_rep (m := m) h1 h4 (by simpa [cntT] using l1) l2, h5⟩
  | false :: m, [], ios, us, vals, f, h1, h2, l1, l2 => by simp [cntF] at l2
  | false :: m, e :: es, ios, _, vals, f, ⟨v, r, rfl, h3, h4⟩, h2, l1, l2 => ⟨v, _, fun _ => 0, f, rfl, h3.o, mrg_rep (m := m) h4 h2 l1 (by simpa [cntF] using l2), fun b => by show f b = 0 + f b; omega⟩
def outD : Env → List V → List D
  | some d :: os, _ :: vs => d :: outD os vs
  | none :: os, v :: vs => .val v :: outD os vs
  | _, _ => []
theorem outD_rep : ∀ {os : Env} {vs : List V} {g : Ct}, Sl K ca F H os (vs.map some) g → RepOs K ca F H (outD os vs) vs g
  | [], vs, g, ⟨e, hz⟩ => by
    have : vs = [] := by simpa using e
    subst this
    exact ⟨rfl, hz⟩
  | none :: os, [], g, ⟨x, r, e, _⟩ => by cases e
  | none :: os, v :: vs, g, ⟨x, r, e, h2⟩ => by
    rw [List.map_cons] at e
    injection e with e1 e2
    subst e1; subst e2
    exact ⟨v, vs, fun _ => 0, g, rfl, ⟨rfl, fun _ => rfl⟩, outD_rep h2, fun b => by show g b = 0 + g b; omega⟩
  | some d :: os, [], g, ⟨v, r, f1, f2, e, _⟩ => by cases e
  | some d :: os, v :: vs, g, ⟨v', r, f1, f2, e, h2, h3, h4⟩ => by
    rw [List.map_cons] at e
    injection e with e1 e2
    have e1 : v = v' := by injection e1
    subst e1; subst e2
    exact ⟨v, vs, f1, f2, rfl, h2, outD_rep h3, h4⟩
end
def putO : List Nat → Env → Env → Env
  | i :: is, o :: os, τ => putO is os (τ.set i o)
  | _, _, τ => τ
def gR (r : CR3) (is : List Nat) (τ2 : Env) : R D := match r with
  | .ok d outs => if outs.length = is.length then .ok d (putO is outs τ2) else .bad
  | .ex c outs => if outs.length = is.length then .ex c (putO is outs τ2) else .bad
  | .bad => .bad
def fldO (c f : Str) (ns : List Str) (xs : List D) (o : Option D) : Option D := o.map fun e => .obj true c ns (putL f e ns xs)
def gRF (r : CR3) (is : List Nat) (i : Nat) (c f : Str) (ns : List Str) (xs : List D) (τ2 : Env) : R D := match r with
  | .ok d outs => if outs.length = is.length + 1 then .ok d (putO is (outs.take is.length) (τ2.set i (fldO c f ns xs (outs.getD is.length none)))) else .bad
  | .ex e outs => if outs.length = is.length + 1 then .ex e (putO is (outs.take is.length) (τ2.set i (fldO c f ns xs (outs.getD is.length none)))) else .bad
  | .bad => .bad
def cG1 (g : List D → CR3) (mask : List Bool) (is : List Nat) (es : List D) (t : Option (List D × Env)) : R D := match t with
  | some (ios, τ2) => gR (g (mrgB mask es ios)) is τ2
  | none => .bad
def cG2 (g : List D → CR3) (mask : List Bool) (is : List Nat) (i : Nat) (c f : Str) (ns : List Str) (xs : List D) (d : D) (es : List D) (t : Option (List D × Env)) : R D := match t with
  | some (ios, τ2) => gRF (g (mrgB mask es (ios ++ [d]))) is i c f ns xs τ2
  | none => .bad
def cG3 (g : List D → CR3) (mask : List Bool) (is : List Nat) (i : Nat) (c f : Str) (es : List D) (o : Option D) (τ1 : Env) : R D := match o with
  | some (.obj true c' ns xs) => (match lookD f ns xs with
    | some d => if c' = c then cG2 g mask is i c f ns xs d es (takeD is (τ1.set i none)) else .bad
    | none => .bad)
  | _ => .bad
abbrev FdO := Option (Nat × Str × Str)
def callG (g : List D → CR3) (mask : List Bool) (is : List Nat) (fo : FdO) (es : List D) (τ1 : Env) : R D := match fo with
  | none => if is.length = cntT mask ∧ es.length = cntF mask then cG1 g mask is es (takeD is τ1) else .bad
  | some (i, c, f) => if is.length + 1 = cntT mask ∧ es.length = cntF mask then cG3 g mask is i c f es (τ1.getD i none) τ1 else .bad
def allS (is : List Nat) (τ : Env) : Bool := is.all fun i => (τ.getD i none).isSome
def eCallG (g : List D → CR3) (mask : List Bool) (is : List Nat) (fo : FdO) (m : MA) : ME := fun τ => if allS is τ = true then (m τ).bind fun ds τ1 => callG g mask is fo (freezeL ds) τ1 else .bad
section
variable {K : PySem.W.Frag} {B : Bx} {W : WX}
def SlV (σ : L2.St) (is : List Nat) (vals : List V) : Prop := vals.length = is.length ∧ ∀ (j i : Nat), is[j]? = some i → ∃ v, vals[j]? = some v ∧ σ[i]? = some (some v)
def plF (ca : Str → Addr) (σ : L2.St) (H : Hp) : FdO → List V → Prop
  | none, tl => tl = []
  | some (i, c, f), tl => ∃ (a dx : Addr) (ns : List Str) (ws : List V) (w : V), tl = [w] ∧ σ[i]? = some (some (.ref a)) ∧ H a = some (.ins (ca c) dx (ns.zip ws)) ∧ (ns.zip ws).lookup f = some w
end
section
variable {X : Cx} {B : Bx} {W : WX}
end
section
variable {X : Cx} {B : Bx} {W : WX}
theorem StT.putsO {K : PySem.W.Frag} {F H : Hp} {σ : L2.St} {v0 : V} {d0 : D} : ∀ {is : List Nat} {τ outs : Env} {vs vals : List V} {ds : List D}, StT K B F H σ τ (v0 :: (vals ++ vs)) (d0 :: (outD outs vals ++ ds)) → SlV σ is vals → outs.length = is.length → StT K B F H σ (putO is outs τ) (v0 :: vs) (d0 :: ds)
  | [], τ, outs, vs, vals, ds, s, hv, ho => by
    have e : vals = [] := List.length_eq_zero_iff.mp hv.1
    have e2 : outs = [] := List.length_eq_zero_iff.mp ho
    subst e; subst e2
    exact s
  | i :: is, τ, [], vs, vals, ds, s, hv, ho => by cases ho
  | i :: is, τ, o :: outs, vs, [], ds, s, hv, ho => by cases hv.1
  | i :: is, τ, o :: outs, vs, v :: vals, ds, s, hv, ho => by
    obtain ⟨v', k1, k2⟩ := hv.2 0 i rfl
    have : v = v' := by simpa using k1
    subst this
    have hv' : SlV σ is vals := ⟨by simpa using hv.1, fun j i' hj => by
      obtain ⟨w, q1, q2⟩ := hv.2 (j + 1) i' (by simpa using hj)
      exact ⟨w, by simpa using q1, q2⟩⟩
    cases o with
    | some d =>
      have s1 := StT.swap (us := [v0]) (es := [d0]) s rfl
      have s2 := s1.putBack (i := i) (by rw [← slen s1]; exact (List.getElem?_eq_some_iff.mp k2).1) k2
      have s3 : StT K B F H σ (τ.set i (some d)) (v0 :: (vals ++ vs)) (d0 :: (outD outs vals ++ ds)) := s2
      exact StT.putsO (is := is) (outs := outs) s3 hv' (by simpa using ho)
    | none =>
      have s1 := StT.swap (us := [v0]) (es := [d0]) s rfl
      have s2 := s1.pop
      have s3 : StT K B F H σ (τ.set i none) (v0 :: (vals ++ vs)) (d0 :: (outD outs vals ++ ds)) := StT.forget s2
      exact StT.putsO (is := is) (outs := outs) s3 hv' (by simpa using ho)
theorem takeD_notin : ∀ {is : List Nat} {τ : Env} {r : List D × Env} {i : Nat}, takeD is τ = some r → τ.getD i none = none → i ∉ is
  | [], _, _, _, _, _ => by simp
  | j :: is, τ, r, i, e, h => by
    intro hm
    unfold takeD at e
    cases ej : τ.getD j none with
    | none => rw [ej] at e; cases e
    | some d =>
      rw [ej] at e
      replace e : (takeD is (τ.set j none)).map (fun p => (d :: p.1, p.2)) = some r := e
      cases e2 : takeD is (τ.set j none) with
      | none => rw [e2] at e; cases e
      | some p =>
        rcases List.mem_cons.mp hm with rfl | hm
        · rw [h] at ej; cases ej
        · refine takeD_notin e2 (i := i) ?_ hm
          rw [List.getD_eq_getElem?_getD, List.getElem?_set]
          split
          · split <;> rfl
          · rw [← List.getD_eq_getElem?_getD]; exact h
theorem putO_set {i : Nat} {o : Option D} : ∀ {is : List Nat} {outs τ : Env}, i ∉ is → putO is outs (τ.set i o) = (putO is outs τ).set i o
  | [], _, _, _ => rfl
  | _ :: _, [], _, _ => rfl
  | j :: is, x :: outs, τ, h => by
    show putO is outs ((τ.set i o).set j x) = (putO is outs (τ.set j x)).set i o
    have hij : i ≠ j := fun e => h (e ▸ List.mem_cons_self)
    rw [List.set_comm _ _ hij, putO_set fun q => h (List.mem_cons_of_mem _ q)]
theorem outD_snoc {o : Option D} {w : V} : ∀ {outs : Env} {vals : List V}, outs.length = vals.length → outD (outs ++ [o]) (vals ++ [w]) = outD outs vals ++ [o.getD (.val w)]
  | [], [], _ => by cases o <;> rfl
  | [], _ :: _, h => by cases h
  | x :: outs, [], h => by cases h
  | none :: outs, v :: vals, h => congrArg (D.val v :: ·) (outD_snoc (by simpa using h))
  | some d :: outs, v :: vals, h => congrArg (d :: ·) (outD_snoc (by simpa using h))
theorem fra_non {F F' H H' : Hp} {f g : Ct} (h : Fra F F' H H' f g) : Fra F F' H H' f (fun b => 0 + g b) := by
  have e : (fun b => 0 + g b) = g := funext fun b => by omega
  rw [e]; exact h
theorem callG_sp {g : List D → CR3} {mask : List Bool} {is : List Nat} {fo : FdO} {F H : Hp} {σ : L2.St} {τ : Env} {vs us vals : List V} {ds es : List D} {Q : VK} (s : StT X.K B F H σ τ vs ds) (rl : RepL X.K B.ca F es us) (hv : SlV σ is vals)
    (p : post (fun d τ' => ∀ v F' H', StT X.K B F' H' σ τ' (v :: vs) (d :: ds) → Q v H') (exW X.K B W σ vs ds) (callG g mask is fo es τ)) :
    (∀ i c f, fo = some (i, c, f) → ∃ ns xs d, τ.getD i none = some (.obj true c ns xs) ∧ lookD f ns xs = some d) ∧ ∀ tl, plF B.ca σ H fo tl → spG X.K B.ca mask g (mrgB mask us (vals ++ tl)) H Q (WE W σ) := by
  unfold callG at p
  cases fo with
  | none =>
    replace p : post _ _ (if is.length = cntT mask ∧ es.length = cntF mask then cG1 g mask is es (takeD is τ) else R.bad) := p
    refine ⟨(fun i c f h => by cases h), fun tl htl => ?_⟩
    cases (show tl = [] from htl)
    rw [List.append_nil]
    by_cases z : is.length = cntT mask ∧ es.length = cntF mask
    · rw [if_pos z] at p
      unfold cG1 at p
      split at p
      · rename_i ios τ2 et
        obtain ⟨il, s3⟩ := s.takes et hv.1 hv.2
        have hvl : vals.length = ios.length := by rw [hv.1, il]
        obtain ⟨f0, r0, n0, d0, fin⟩ := StT.calledIO hvl s3
        refine ⟨F, f0, mrgB mask es ios, mrg_rep rl r0 (by omega) z.2, s3.same, n0, d0, ?_⟩
        rw [pick_mrg (by rw [hv.1]; exact z.1) (by rw [rl.length]; exact z.2)]
        cases eg : g (mrgB mask es ios) with
        | bad => rw [eg] at p; exact p.elim
        | ok d outs =>
          rw [eg] at p
          replace p : post _ _ (if outs.length = is.length then R.ok d (putO is outs τ2) else R.bad) := p
          by_cases ol : outs.length = is.length
          · rw [if_pos ol] at p
            intro v F' H' g1 g2 fr rd sl
            refine p v F' H' (StT.putsO ?_ hv ol)
            exact fin F' H' v d (outD outs vals) _ fr.ff fr.fh fr.hh ⟨v, vals, g1, g2, rfl, rd, outD_rep sl, fun _ => rfl⟩ fr.nd fr.dF fr.fr
          · rw [if_neg ol] at p; exact p.elim
        | ex c outs =>
          rw [eg] at p
          replace p : post _ _ (if outs.length = is.length then R.ex c (putO is outs τ2) else R.bad) := p
          by_cases ol : outs.length = is.length
          · rw [if_pos ol] at p
            intro F' H' g2 fr sl
            have fr' := fra_non fr
            have s5 := fin F' H' .non .non (outD outs vals) _ fr'.ff fr'.fh fr'.hh ⟨.non, vals, fun _ => 0, g2, rfl, ⟨rfl, fun _ => rfl⟩, outD_rep sl, fun _ => rfl⟩ fr'.nd fr'.dF fr'.fr
            exact p F' H' (StT.putsO s5 hv ol).pop
          · rw [if_neg ol] at p; exact p.elim
      · exact p.elim
    · rw [if_neg z] at p; exact p.elim
  | some t =>
    obtain ⟨i, c, f⟩ := t
    replace p : post _ _ (if is.length + 1 = cntT mask ∧ es.length = cntF mask then cG3 g mask is i c f es (τ.getD i none) τ else R.bad) := p
    by_cases z : is.length + 1 = cntT mask ∧ es.length = cntF mask
    · rw [if_pos z] at p
      unfold cG3 at p
      split at p
      · rename_i c' ns xs e0
        cases l : lookD f ns xs with
        | none => rw [l] at p; exact p.elim
        | some d =>
          rw [l] at p
          replace p : post _ _ (if c' = c then cG2 g mask is i c f ns xs d es (takeD is (τ.set i none)) else R.bad) := p
          by_cases hc : c' = c
          · rw [if_pos hc] at p
            subst hc
            refine ⟨(fun i' c'' f' h => by cases h; exact ⟨ns, xs, d, e0, l⟩), fun tl htl => ?_⟩
            obtain ⟨a, dx, ws, w, k1, k2, k3, k4, s1⟩ := s.fieldOut (getD_some e0) l
            obtain ⟨a', dx', ns', ws', w', rfl, h1, h2, h3⟩ := htl
            rw [k1] at h1
            cases h1
            rw [k2] at h2
            have eww : w' = w := by
              have h9 : ns.zip ws = ns'.zip ws' := by injection h2 with h9; injection h9
              rw [← h9, k4] at h3
              exact (Option.some.inj h3).symm
            subst eww
            unfold cG2 at p
            split at p
            · rename_i ios τ2 et
              obtain ⟨il, s3⟩ := StT.takes (vs := w' :: .ref a :: vs) s1 et hv.1 hv.2
              have s3' : StT X.K B F H σ τ2 ((vals ++ [w']) ++ (.ref a :: vs)) ((ios ++ [d]) ++ (.obj true c' ns (putL f (.val w') ns xs) :: ds)) := by
                rw [List.append_assoc, List.append_assoc]; exact s3
              have hvl : (vals ++ [w']).length = (ios ++ [d]).length := by rw [List.length_append, List.length_append, hv.1, il]; rfl
              obtain ⟨f0, r0, n0, d0, fin⟩ := StT.calledIO hvl s3'
              refine ⟨F, f0, mrgB mask es (ios ++ [d]), mrg_rep rl r0 (by rw [List.length_append, il]; exact z.1) z.2, s3.same, n0, d0, ?_⟩
              rw [pick_mrg (by rw [List.length_append, hv.1]; exact z.1) (by rw [rl.length]; exact z.2)]
              -- behind the call
              have back : ∀ (outs : Env) (F' H' : Hp) (v : V) (d9 : D), outs.length = is.length + 1 → StT X.K B F' H' σ τ2 (v :: ((vals ++ [w']) ++ (.ref a :: vs))) (d9 :: (outD outs (vals ++ [w']) ++ (.obj true c' ns (putL f (.val w') ns xs) :: ds))) →
                  StT X.K B F' H' σ (putO is (outs.take is.length) (τ2.set i (fldO c' f ns xs (outs.getD is.length none)))) (v :: vs) (d9 :: ds) := by
                intro outs F' H' v d9 ol s6
                obtain ⟨oS, o, rfl⟩ : ∃ oS o, outs = oS ++ [o] := ⟨outs.take is.length, outs.getD is.length none, by
                  have hlt : is.length < outs.length := by omega
                  rw [List.getD_eq_getElem?_getD, List.getElem?_eq_getElem hlt, Option.getD_some, List.take_append_getElem hlt]
                  exact (List.take_of_length_le (by omega)).symm⟩
                have oS_l : oS.length = is.length := by simpa using ol
                rw [outD_snoc (by rw [hv.1]; exact oS_l), List.append_assoc, List.append_assoc] at s6
                have e1 : (oS ++ [o]).take is.length = oS := by rw [← oS_l]; exact List.take_left ..
                have e2 : (oS ++ [o]).getD is.length none = o := by
                  rw [List.getD_eq_getElem?_getD, ← oS_l, List.getElem?_append_right (Nat.le_refl _), Nat.sub_self]; rfl
                rw [e1, e2]
                have ni : i ∉ is := takeD_notin et (by
                  rw [List.getD_eq_getElem?_getD, List.getElem?_set]
                  split
                  · split <;> rfl
                  · rename_i q; exact absurd rfl q)
                rw [putO_set ni]
                have s7 := StT.putsO (vs := w' :: .ref a :: vs) (ds := o.getD (.val w') :: .obj true c' ns (putL f (.val w') ns xs) :: ds) s6 hv oS_l
                have s8 := StT.swap (us := [v, w']) (es := [d9, o.getD (.val w')]) s7 rfl
                have s9 := StT.swap (us := [.ref a, v]) (es := [.obj true c' ns (putL f (.val w') ns xs), d9]) s8 rfl
                have hi : i < (putO is oS τ2).length := by rw [← slen s9]; exact (List.getElem?_eq_some_iff.mp k1).1
                have s10 := StT.fieldIn (vs := v :: vs) (ds := d9 :: ds) s9 l k1 hi
                cases o with
                | some e => exact s10
                | none =>
                  have s11 := StT.forget (i := i) s10
                  rw [List.set_set] at s11
                  exact s11
              cases eg : g (mrgB mask es (ios ++ [d])) with
              | bad => rw [eg] at p; exact p.elim
              | ok d9 outs =>
                rw [eg] at p
                replace p : post _ _ (if outs.length = is.length + 1 then R.ok d9 (putO is (outs.take is.length) (τ2.set i (fldO c' f ns xs (outs.getD is.length none)))) else R.bad) := p
                by_cases ol : outs.length = is.length + 1
                · rw [if_pos ol] at p
                  intro v F' H' g1 g2 fr rd sl
                  refine p v F' H' (back outs F' H' v d9 ol ?_)
                  exact fin F' H' v d9 (outD outs (vals ++ [w'])) _ fr.ff fr.fh fr.hh ⟨v, vals ++ [w'], g1, g2, rfl, rd, outD_rep sl, fun _ => rfl⟩ fr.nd fr.dF fr.fr
                · rw [if_neg ol] at p; exact p.elim
              | ex e outs =>
                rw [eg] at p
                replace p : post _ _ (if outs.length = is.length + 1 then R.ex e (putO is (outs.take is.length) (τ2.set i (fldO c' f ns xs (outs.getD is.length none)))) else R.bad) := p
                by_cases ol : outs.length = is.length + 1
                · rw [if_pos ol] at p
                  intro F' H' g2 fr sl
                  have fr' := fra_non fr
                  have s5 := fin F' H' .non .non (outD outs (vals ++ [w'])) _ fr'.ff fr'.fh fr'.hh ⟨.non, vals ++ [w'], fun _ => 0, g2, rfl, ⟨rfl, fun _ => rfl⟩, outD_rep sl, fun _ => rfl⟩ fr'.nd fr'.dF fr'.fr
                  exact p F' H' (back outs F' H' .non .non ol s5).pop
                · rw [if_neg ol] at p; exact p.elim
            · exact p.elim
          · rw [if_neg hc] at p; exact p.elim
      · exact p.elim
    · rw [if_neg z] at p; exact p.elim
end
section
variable {X : Cx} {B : Bx} {W : WX}
end
end Bn
namespace Bn
open PySem PySem.Spec PyProof.Rows L2
section
variable {α β γ δ ρ σ κ : Type}
variable {G G1 G2 : List Slot} {X : Env → Prop}
end
section
variable {α β γ : Type} {G G1 : List Slot} {X : Env → Prop}
end
section
variable {α : Type} {G G2 G3 : List Slot} {X : Env → Prop}
end
section
variable {S ρ σ σ' κ : Type} {G : List Slot} {GS : S → List Slot} {X : Env → Prop} {G' : σ → List Slot} {L : κ → List Slot} {er : ρ → D → Env → Prop}
end
end Bn
namespace Bn
open PySem PySem.Spec PyProof.Rows L2
section
variable {α β γ ρ σ σ' κ : Type} {G G1 : List Slot} {G' : σ → List Slot} {L : κ → List Slot} {er : ρ → D → Env → Prop} {X : Env → Prop}
end
end Bn
namespace Bn
section
open PySem PySem.Spec PyProof.Rows L2
end
open PySem PySem.Spec PyProof.Rows L2
section
variable {α β γ ρ σ σ' κ : Type} {G G1 : List Slot} {G' : σ → List Slot} {L : κ → List Slot} {er : ρ → D → Env → Prop} {X : Env → Prop}
end
end Bn
namespace Bn
open PySem PySem.Spec PyProof.Rows L2
section
variable {α β γ ρ σ σ' κ : Type} {G G1 : List Slot} {G' : σ → List Slot} {L : κ → List Slot} {er : ρ → D → Env → Prop} {X : Env → Prop}
end
end Bn
namespace Bn
open PySem PySem.Spec PyProof.Rows L2
section
variable {X : Cx} {B : Bx} {W : WX}
end
section
variable {X : Cx} {B : Bx} {W : WX}
end
section
variable {X : Cx} {B : Bx} {W : WX}
end
section
variable {α β γ ρ σ σ' κ : Type} {G G1 : List Slot} {G' : σ → List Slot} {L : κ → List Slot} {er : ρ → D → Env → Prop} {X : Env → Prop}
end
end Bn
namespace Bn
open PySem PySem.Spec PyProof.Rows L2
section
variable {X : Cx} {B : Bx} {W : WX}
end
section
variable {X : Cx} {B : Bx} {W : WX}
end
section
variable {G : List Slot} {X : Env → Prop}
section
variable {α ρ σ κ : Type} {G' : σ → List Slot} {L : κ → List Slot} {er : ρ → D → Env → Prop}
end
end
section
variable {S : Type} {G G1 : List Slot} {GS : S → List Slot} {X : Env → Prop}
end
end Bn
namespace Bn
open PySem PySem.Spec PyProof.Rows L2
section
variable {K : PySem.W.Frag} {B : Bx} {W : WX}
end
section
variable {X : Cx} {B : Bx} {W : WX}
theorem PE.two {e : Expr} {t t1 t2 : TE} (h1 : PE X e t1) (h2 : PE X e t2) (k : ∀ σ H Q, t σ H Q → t1 σ H Q ∨ t2 σ H Q) : PE X e t := ⟨fun p s σ H Q I q => (k _ _ _ q).elim (h1.run p s σ H Q I) (h2.run p s σ H Q I)⟩
end
section
variable {σ κ ρ : Type} {G : List Slot} {X : Env → Prop}
end
section
variable {α β γ : Type} {G G1 : List Slot} {X : Env → Prop}
end
section
variable {α : Type} {G G1 : List Slot} {X : Env → Prop}
end
end Bn
namespace Bn
open PySem PySem.Spec PyProof.Rows L2
structure Src where
  It : Heap → Addr → Addr → Nat → Prop
  Sq : Heap → Addr → Array Value → Prop
  itUp : ∀ {h h' : Heap} {i l : Addr} {k : Nat}, It h i l k → (∀ o, h.get? i = some o → h'.get? i = some o) → It h' i l k
  sqUp : ∀ {h h' : Heap} {l : Addr} {xs : Array Value}, Sq h l xs → (∀ o, h.get? l = some o → h'.get? l = some o) → Sq h' l xs
  itOb : ∀ {h : Heap} {i l : Addr} {k : Nat}, It h i l k → ∃ o, h.get? i = some o ∧ ∀ v, o.data ≠ .cell v
  nx : ∀ {prog : Program} {w : World} {A : Around} {E Q : Value → Shared → Prop} {s : Shared} {it l : Addr} {i : Nat} {xs : Array Value} {x : Value}, It s.heap it l i → Sq s.heap l xs → xs[i]? = some x →
    (∀ h', It h' it l (i + 1) → Heap.SameBut it s.heap h' → Q x { s with heap := h' }) → wpAny (model prog w) A (Builtin.SmallTypes.nextOf (.ref it)) Q E s
  no : ∀ {prog : Program} {w : World} {A : Around} {E Q : Value → Shared → Prop} {s : Shared} {it l : Addr} {i : Nat} {xs : Array Value}, A.handled = none → It s.heap it l i → Sq s.heap l xs → xs[i]? = none →
    (∀ h' e, Heap.ExtBut it s.heap h' → (∃ o, h'.get? e = some o ∧ o.cls = .type "StopIteration") → E (.ref e) { s with heap := h' }) → wpAny (model prog w) A (Builtin.SmallTypes.nextOf (.ref it)) Q E s
section
variable {prog : Program} {w : World} {A : Around} {E : Value → Shared → Prop} {s : Shared} {S1 S2 : Src}
end
section
variable {prog : Program} {w : World} {A : Around} {E : Value → Shared → Prop} {s : Shared}
end
section
variable {X : Cx} {B : Bx} {W : WX}
end
section
variable {α β : Type} {G G1 : List Slot} {X : Env → Prop}
end
end Bn
namespace Bn
open PySem PySem.Spec PyProof.Rows L2
structure MFoG (P : Program) (w : World) (K : PySem.W.Frag) (mg : Str → Option Value) (base : Heap) (ca : Str → Addr) (k : Nat) (c m : Str) (mask : List Bool) (g : List D → CR3) : Prop where
  ex : ∃ f fd ps, Meth K (ca c) m f ∧ Binds K fd ps [] ∧ FnOk P w K mg base (L2.CX P w) k f fd ps (spG K ca mask g)
  cl : Cls K (ca c)
def eMethG (c m : Str) (g : List D → CR3) (n : Nat) (i : Nat) (ma : MA) : ME := fun τ => if methOk c m (τ.getD i none) = true then eCallG g (true :: List.replicate n false) [i] none ma τ else .bad
theorem mrg_none {α : Type} : ∀ {n : Nat} {us : List α}, us.length = n → mrgB (List.replicate n false) us [] = us
  | 0, [], _ => rfl
  | n + 1, u :: us, h => by
    show u :: mrgB (List.replicate n false) us [] = _
    rw [mrg_none (Nat.succ.inj h)]
theorem cntF_rep : ∀ n : Nat, cntF (List.replicate n false) = n
  | 0 => rfl
  | n + 1 => by
    show cntF (List.replicate n false) + 1 = n + 1
    rw [cntF_rep n]
section
variable {X : Cx} {B : Bx} {W : WX}
theorem e_methG {m : Str} {o e : Expr} {es : List Expr} {apos pos : Pos} {ma : MA} {cc : Str} {g : List D → CR3} {i k j n : Nat} {pl : Sem Bool} (c : XOk X W) (G : MFoG X.prog X.w X.K X.mg X.base B.ca k cc m (true :: List.replicate n false) g) (hr : Room j X.A) (ho : PE X o (tVar i)) (ha : PA X (e :: es) (rdA X.K B W ma)) (hk : k ≤ j := by decide)
    (hst : starEach (e :: es) X.env = (false, eval e X.env) :: starEach es X.env := by rfl) (hpl : (backTo pos (starEach es X.env)).any (·.1) = false := by rfl)
    (ht : eval (.Call (.Attribute o m apos) (e :: es) [] pos) X.env = (do
      let ov ← eval o X.env
      standAt apos.atName
      let (f, first) ← holding [ov] (getMethod ov m pl)
      callWith pos f first (backTo pos (starEach (e :: es) X.env)) (backToKw pos (keywordEach [] X.env))) := by rfl) :
    PE X (.Call (.Attribute o m apos) (e :: es) [] pos) (rdE X.K B W (eMethG cc m g n i ma)) := by
  obtain ⟨⟨f, fd, ps, hm, hb, F⟩, cl⟩ := G
  refine PE.imp (pe_methX (pl := pl) ho cl hm F (hr.mono hk) hb (fun σ => passAt c.tk σ) ha hst hpl ht) fun σ H Q h => ?_
  obtain ⟨F, τ, vs, ds, s, p⟩ := h
  unfold eMethG at p
  by_cases z : methOk cc m (τ.getD i none) = true
  · rw [if_pos z] at p
    obtain ⟨ns, xs, e0, nm⟩ := methOk_ok z
    obtain ⟨v, f', k1, a, dx, fs, ws, g', rfl, hx, rfl, hl, _⟩ := s.get (getD_some e0)
    unfold eCallG at p
    rw [if_pos (by unfold allS; rw [List.all_cons, e0]; rfl)] at p
    refine ⟨.ref a, k1, a, dx, _, rfl, hx, lookup_zip_none nm, F, τ, vs, ds, s, post_imp (post_bind p) (fun as τ1 q us F1 H1 hl s1 => ?_) fun _ _ q => q⟩
    obtain ⟨F2, sm, rl, s2⟩ := s1.freeze hl
    have sp := (callG_sp (vals := [.ref a]) s2 rl ⟨rfl, fun j i' hj => by
      cases j with
      | zero => cases hj; exact ⟨_, rfl, k1⟩
      | succ j => simp at hj⟩ q).2 [] rfl
    have le : us.length = n := by
      unfold callG at q
      dsimp only at q
      split at q
      · rename_i h
        have h2 := h.2
        have h3 : cntF (true :: List.replicate n false) = n := cntF_rep n
        rw [h3] at h2
        rw [← h2, rl.length]
      · exact q.elim
    have e2 : mrgB (true :: List.replicate n false) us ([V.ref a] ++ []) = .ref a :: us := by
      show V.ref a :: mrgB (List.replicate n false) us [] = _
      rw [mrg_none le]
    rw [e2] at sp
    exact sp
  · rw [if_neg z] at p; exact p.elim
end
theorem itOk_zipO {B : Bx} {K : PySem.W.Frag} {a b : Addr} {es fs : List D} {vs : List V} {ds : List D} (hz : es.all isFz = true) : ItOk K B (Itz K a b) (zipD es fs) (.ref b :: .ref a :: vs) (.lst false fs :: .lst true es :: ds) := by
  have look : ∀ {F H σ τ}, StT K B F H σ τ (.ref b :: .ref a :: vs) (.lst false fs :: .lst true es :: ds) → ∃ us g ws, SqL K H a us ∧ RepOs K B.ca F H es us g ∧ SqL K H b ws ∧ RepL K B.ca F fs ws := fun {F H σ τ} s => by
    obtain ⟨b', ws, e, h1, h2⟩ := s.topF rfl
    obtain ⟨f, a', us, g, e', h1', h2', _⟩ := s.pop.top
    cases e; cases e'
    exact ⟨us, g, ws, sqOf h1', h2', sqOf (s.same _ _ h1), h2⟩
  refine ⟨fun i F H σ τ s hi => ?_, fun F H σ τ s => ?_, fun i d F H σ τ x H' us' es' hl hd s y => ?_⟩
  · obtain ⟨us, g, ws, h1, h2, h3, h4⟩ := look s
    rw [zipD_len] at hi
    have i1 : i < us.length := by rw [h2.length]; omega
    have i2 : i < ws.length := by rw [h4.length]; omega
    exact ⟨us, ws, us[i], ws[i], h1, h3, by simp [i1], by simp [i2]⟩
  · obtain ⟨us, g, ws, h1, h2, h3, h4⟩ := look s
    refine ⟨us, ws, h1, h3, ?_⟩
    rw [zipD_len, h2.length, h4.length]; omega
  · obtain ⟨T, x', y', rfl, hT, rfl, y1, y2⟩ := y
    obtain ⟨us, g, ws, h1, h2, h3, h4⟩ := look (s.pops hl)
    obtain ⟨d1, d2, g1, g2, rfl⟩ := zipD_get i es fs d hd
    obtain ⟨v1, f1, k1, r1⟩ := h2.getI g1
    obtain ⟨v2, k2, r2⟩ := h4.get g2
    rw [y1 us h1] at k1; cases k1
    rw [y2 ws h3] at k2; cases k2
    have r1 := ((repO_fz (List.all_eq_true.mp hz _ (List.mem_of_getElem? g1))).mp r1).1
    exact ⟨_, s.newTup hT ⟨x', [y'], rfl, r1, y', [], rfl, r2, rfl⟩⟩
def fzB (o o2 : Option D) (i : Nat) (g : D → Env → Option Env) (b : MS) (τ : Env) : SR := match o, o2 with
  | some (.lst true es), some (.lst false fs) => if es.all isFz = true then fbR i es (forL g b (zipD es fs) (τ.set i none)) else .bad
  | _, _ => .bad
def sForZB (i j : Nat) (g : D → Env → Option Env) (b : MS) : MS := fun τ => fzB (τ.getD i none) (τ.getD j none) i g b τ
theorem s_forZB {X : Cx} {B : Bx} {W : WX} {i j : Nat} {e e2 : Expr} {p pos tpos pos' : Pos} {elts : List Expr} {kk : Nat} {body : List Stmt} {sl : List Nat} {g : D → Env → Option Env} {b : MS} (c : XOk X W) (hgl : Gl X "zip") (hm : X.mg "zip" = none) (hi : PE X e (tVar i)) (hj : PE X e2 (tVar j)) (hg : ∀ v, PG X (.Tuple elts kk tpos) (rdG X.K ⟨B.ca, B.F0, B.R, (i, v) :: B.io⟩ sl g)) (hb : ∀ v, PSs X body (rdS X.K ⟨B.ca, B.F0, B.R, (i, v) :: B.io⟩ W b))
    (h1 : starEach [e, e2] X.env = (false, eval e X.env) :: starEach [e2] X.env := by rfl) (h2 : starEach [e2] X.env = (false, eval e2 X.env) :: starEach [] X.env := by rfl) (hpl : (backTo pos (starEach [e2] X.env)).any (·.1) = false := by rfl)
    (hs : ∀ x, foldedSetIterable (.Call (.Name "zip" p) [e, e2] [] pos) X.env x = pure x := by intro _; rfl) : PS X (.For (.Tuple elts kk tpos) (.Call (.Name "zip" p) [e, e2] [] pos) body [] pos') (rdS X.K B W (sForZB i j g b)) := by
  have hg' : PG X (.Tuple elts kk tpos) (fun x σ H Q => ∃ v, rdG X.K (B.io1 i v) sl g x σ H Q) := ⟨fun p s σ H x u Q I r q => by
    obtain ⟨v, q⟩ := q
    exact (hg v).run p s σ H x u Q I r q⟩
  have hb' : PSs X body (fun D σ H => ∃ v, rdS X.K (B.io1 i v) W b D σ H) := ⟨fun p s σ H D I q => by
    obtain ⟨v, q⟩ := q
    exact (hb v).run p s σ H D I q⟩
  refine PS.imp (ps_for c.hp c.calm (pi_zip hgl hm (pa_cons hi (pa_cons hj pa_nil h2) h1) h1 hpl) hg' hb' hs) fun D' σ H ⟨F, τ, vs, ds, s, p⟩ => ?_
  unfold sForZB fzB at p
  split at p
  · rename_i es fs e0 e1
    by_cases z : es.all isFz = true
    · rw [if_pos z] at p
      obtain ⟨v, k1, s1⟩ := s.take (getD_some e0)
      obtain ⟨f, a, us, g', rfl, q2, _⟩ := s1.top
      obtain ⟨v2, f2, k2, r2⟩ := s.get (getD_some e1)
      have r2 := ((repO_fz (d := .lst false fs) rfl).mp r2).1
      have s2 := s1.push r2
      obtain ⟨b', ws, rfl, q3, q4⟩ := r2
      refine ⟨.ref a, k1, .ref b', k2, a, b', us, ws, rfl, sqOf q2, sqOf (s.same _ _ q3), ?_⟩
      have p' : postS X.K (B.io1 i (.ref a)) W (.ref b' :: .ref a :: vs) (.lst false fs :: .lst true es :: ds) D' (forL g b (zipD es fs) (τ.set i none)) := by
        cases e : forL g b (zipD es fs) (τ.set i none) with
        | nx τ2 =>
          rw [e] at p
          intro σ2 F2 H2 s2
          obtain ⟨q1, q2⟩ := s2.io0
          have hl := q2.len
          exact p σ2 F2 H2 (q2.pop.putBack (by rw [← hl]; exact (List.getElem?_eq_some_iff.mp q1).1) q1)
        | rt d2 τ2 =>
          rw [e] at p
          intro v2 σ2 F2 H2 s2
          exact p v2 σ2 F2 H2 (StT.under (us := [.ref b', .ref a]) (es := [.lst false fs, .lst true es]) s2.io0.2 rfl)
        | ex c2 τ2 =>
          rw [e] at p
          intro σ2 F2 H2 s2
          exact p σ2 F2 H2 s2.io0.2.pop.pop
        | bk τ2 => rw [e] at p; exact p.elim
        | ct τ2 => rw [e] at p; exact p.elim
        | bad => rw [e] at p; exact p.elim
      obtain ⟨W', ⟨m, w0⟩, hW⟩ := for_core (B := B.io1 i (.ref a)) (W := W) (sl := sl) (itOk_zipO z) (s2.io1 k1) p'
      refine ⟨W', ⟨m, w0⟩, fun j m σ H hw => ?_⟩
      rcases hW j m σ H hw with h | ⟨h3, N, h4, h5⟩
      · exact .inl h
      · refine .inr ⟨h3, N, h4, fun x H' y => ⟨.ref a, ?_⟩⟩
        obtain ⟨F9, τ9, vs9, ds9, d9, s9, τ8, e9, k9⟩ := h5 x H' y
        exact ⟨F9, τ9, vs9, ds9, d9, s9, τ8, e9, fun σ2 F2 H2 s2 l2 l3 => ⟨.ref a, k9 σ2 F2 H2 s2 l2 l3⟩⟩
    · rw [if_neg z] at p; exact p.elim
  · exact p.elim
end Bn
namespace Lw
open PySem PySem.Spec PyProof.Rows L2 Bn
theorem sc__law_whole : FnScope ["_law_found"] ["_law_found"] (defScope s__law_whole) := ⟨rfl, rfl, rfl, by decide +kernel, rfl, by decide +kernel, by decide +kernel⟩
theorem sc_Net_nodes : FnScope ["self"] ["self"] (defScope s_Net_nodes) := ⟨rfl, rfl, rfl, by decide +kernel, rfl, by decide +kernel, by decide +kernel⟩
theorem sc__law_listed : FnScope ["_law_net", "_law_nodes", "_law_found", "_law_node_here", "_law_due"] ["_law_net", "_law_nodes"] (defScope s__law_listed) := ⟨rfl, rfl, rfl, by decide +kernel, rfl, by decide +kernel, by decide +kernel⟩
theorem sc__law_cell_at : FnScope ["_law_script", "_law_k"] ["_law_script", "_law_k"] (defScope s__law_cell_at) := ⟨rfl, rfl, rfl, by decide +kernel, rfl, by decide +kernel, by decide +kernel⟩
theorem sc_weight_of : FnScope ["node", "heavy"] ["node", "heavy"] (defScope s_weight_of) := ⟨rfl, rfl, rfl, by decide +kernel, rfl, by decide +kernel, by decide +kernel⟩
theorem sc_Net_put : FnScope ["self", "node", "heavy"] ["self", "node"] (defScope s_Net_put) := ⟨rfl, rfl, rfl, by decide +kernel, rfl, by decide +kernel, by decide +kernel⟩
theorem sc__law_put : FnScope ["_law_net", "_law_node_here", "_law_heard", "e"] ["_law_net", "_law_node_here"] (defScope s__law_put) := ⟨rfl, rfl, rfl, by decide +kernel, rfl, by decide +kernel, by decide +kernel⟩
theorem sc__law_weight : FnScope ["_law_node_here", "_law_heavy"] ["_law_node_here", "_law_heavy"] (defScope s__law_weight) := ⟨rfl, rfl, rfl, by decide +kernel, rfl, by decide +kernel, by decide +kernel⟩
theorem sc__law_step : FnScope ["_law_net", "_law_nodes", "_law_heavy", "_law_node_here", "_law_heard"] ["_law_net", "_law_nodes", "_law_heavy", "_law_node_here"] (defScope s__law_step) := ⟨rfl, rfl, rfl, by decide +kernel, rfl, by decide +kernel, by decide +kernel⟩
theorem sc__law_node : FnScope ["_law_cell", "_law_many", "_law_bottom", "_law_one", "_law_other"] ["_law_cell", "_law_many"] (defScope s__law_node) := ⟨rfl, rfl, rfl, by decide +kernel, rfl, by decide +kernel, by decide +kernel⟩
theorem sc_Net___init__ : FnScope ["self"] ["self"] (defScope s_Net___init__) := ⟨rfl, rfl, rfl, by decide +kernel, rfl, by decide +kernel, by decide +kernel⟩
theorem sc_Net_weight : FnScope ["self", "at"] ["self", "at"] (defScope s_Net_weight) := ⟨rfl, rfl, rfl, by decide +kernel, rfl, by decide +kernel, by decide +kernel⟩
theorem sc_law : FnScope ["_law_script", "_law_net", "_law_beside", "_law_nodes", "_law_heavy", "_law_k", "_law_cell", "_law_at", "_law_weight_here", "_law_found"] ["_law_script"] (defScope s_law) := ⟨rfl, rfl, rfl, by decide +kernel, rfl, by decide +kernel, by decide +kernel⟩
def k_HEAVIEST : D := .int 16
def k_MOST : D := .int 60
def sub_BoxError : Str → Option Bool := fun y => if y = "TooMuch" then some true else none
def is_NoRow : Str → Option Bool := fun y => if y = "TooMuch" then some false else none
def is_TooMuch : Str → Option Bool := fun y => if y = "TooMuch" then some true else none
def caF (a_BoxError a_NoRow a_TooMuch a_Net : Addr) : Str → Addr := fun y => if y = "BoxError" then a_BoxError else if y = "NoRow" then a_NoRow else if y = "TooMuch" then a_TooMuch else if y = "Net" then a_Net else 0
def m__law_whole : MS := (sRet (eAnd (eZ (zC' gIsi (zaCons (zVar 0) (zaCons (zC (.ty "int")) zaNil)))) (eNot (eZ (zC' gIsi (zaCons (zVar 0) (zaCons (zC (.ty "bool")) zaNil)))))))
def f__law_whole : List D → CR := callF 1 1 m__law_whole
def m_Net_nodes : MS := (sRet (eLstOf (aCons (eZ (z1 (gFld "Net" "kept") (zVar 0))) aNil)))
def f_Net_nodes : List D → CR := callF 1 1 m_Net_nodes
def al_nodes : List (Str × (List D → CR)) := [("Net", f_Net_nodes)]
def m__law_listed : MS := (sSeq (sAsg (eMethZ0 al_nodes "nodes" 0) (gN 2))
    (sSeq (sIf (tOr (tNot (tZ (zC' gIsi (zaCons (zVar 2) (zaCons (zC (.ty "list")) zaNil))))) (tZ (z2 gNe (zC' gLen (zaCons (zVar 2) zaNil)) (zC' gLen (zaCons (zVar 1) zaNil))))) (sRet (eZ (zC (.bl false)))) sNil)
    (sSeq (sForZB 2 1 (gT 2 (gCons' (gN 3) (gCons' (gN 4) gNil'))) (sIf (tOr (tNot (tZ (zC' gIsi (zaCons (zVar 3) (zaCons (zC (.ty "tuple")) zaNil))))) (tOr (tNot (tE (eCall f__law_whole (aCons (eZ (z2 gIx (zVar 3) (zC (.int 1)))) aNil)))) (tZ (z2 gNe (zVar 3) (zVar 4))))) (sRet (eZ (zC (.bl false)))) sNil))
    (sSeq (sApp 2 (eTup (aCons (eZ (zC (.str "number"))) (aCons (eZ (zC (.int 1))) (aCons (eZ (zC (.int 1))) aNil)))))
    (sSeq (sSetIx 2 (zC (.int 0)) (eTup (aCons (eZ (zC (.str "number"))) (aCons (eZ (zC (.int 5))) (aCons (eZ (zC (.int 7))) aNil)))))
    (sRet (e2 gEq (eMethZ0 al_nodes "nodes" 0) (eVar 1))))))))
def f__law_listed : List D → CR := callF 2 5 m__law_listed
def m__law_cell_at : MS := (sSeq (sIf (tZ (z2 gLt (zVar 1) (zC' gLen (zaCons (zVar 0) zaNil)))) (sRet (eZ (z2 gIx (zVar 0) (zVar 1)))) sNil)
    (sRet (eZ (zC (.int 0)))))
def f__law_cell_at : List D → CR := callF 2 2 m__law_cell_at
def m_weight_of : MS := (sSeq (sIf (tE (e2 (gIn false) (eZ (z2 gIx (zVar 0) (zC (.int 0)))) (eTup (aCons (eZ (zC (.str "number"))) (aCons (eZ (zC (.str "unknown"))) aNil))))) (sRet (eZ (zC (.int 1)))) sNil)
    (sSeq (sIf (tZ (z2 gEq (z2 gIx (zVar 0) (zC (.int 0))) (zC (.str "power")))) (sRet (eZ (z2 gMul (z2 gIx (zVar 0) (zC (.int 2))) (z2 gIx (zVar 1) (z2 gIx (zVar 0) (zC (.int 1))))))) sNil)
    (sRet (eZ (z2 gAdd (z2 gIx (zVar 1) (z2 gIx (zVar 0) (zC (.int 1)))) (z2 gIx (zVar 1) (z2 gIx (zVar 0) (zC (.int 2)))))))))
def f_weight_of : List D → CR := callF 2 2 m_weight_of
def m_Net_put : MS := (sSeq (sIf (tZ (z2 (gInD false) (zVar 1) (z1 (gFld "Net" "kept") (zVar 0)))) (sRet (eZ (z2 gIndex (z1 (gFld "Net" "kept") (zVar 0)) (zVar 1)))) sNil)
    (sSeq (sAsg (eCallZ f_weight_of (zaCons (zVar 1) (zaCons (z1 (gFld "Net" "heavy") (zVar 0)) zaNil))) (gN 2))
    (sSeq (sIf (tOr (tZ (z2 gGt (zVar 2) (zC k_HEAVIEST))) (tZ (z2 gGe (zC' gLen (zaCons (z1 (gFld "Net" "kept") (zVar 0)) zaNil)) (zC k_MOST)))) (sRaise "TooMuch") sNil)
    (sSeq (sAppF 0 "Net" "kept" (eVar 1))
    (sSeq (sAppF 0 "Net" "heavy" (eVar 2))
    (sRet (eZ (z2 gSub (zC' gLen (zaCons (z1 (gFld "Net" "kept") (zVar 0)) zaNil)) (zC (.int 1))))))))))
def f_Net_put : List D → CR3 := callFG 2 3 [true, false] m_Net_put
def m__law_put : MS := (sSeq (sAsg (eLst (aCons (eZ (zC (.str "refused"))) aNil)) (gN 2))
    (sSeq (sTryAs 3 sub_BoxError (sAsg (eLst (aCons (eMethG "Net" "put" f_Net_put 1 0 (aCons (eVar 1) aNil)) aNil)) (gN 2)) (fun y => (sIf (tOr (tNot (tE (eIs (is_TooMuch y)))) (tE (eIs (is_NoRow y)))) (sAsg (eLst (aCons (eZ (zC (.str "otherwise"))) aNil)) (gN 2)) sNil)))
    (sRet (eMv 2))))
def f__law_put : List D → CR2 := callFI 2 4 1 m__law_put
def m__law_weight : MS := (sSeq (sIf (tOr (tZ (z2 gEq (z2 gIx (zVar 0) (zC (.int 0))) (zC (.str "number")))) (tZ (z2 gEq (z2 gIx (zVar 0) (zC (.int 0))) (zC (.str "unknown"))))) (sRet (eZ (zC (.int 1)))) sNil)
    (sSeq (sIf (tZ (z2 gEq (z2 gIx (zVar 0) (zC (.int 0))) (zC (.str "power")))) (sRet (eZ (z2 gMulA (z2 gIx (zVar 0) (zC (.int 2))) (z2 gIx (zVar 1) (z2 gIx (zVar 0) (zC (.int 1))))))) sNil)
    (sRet (eZ (z2 gAdd (z2 gIx (zVar 1) (z2 gIx (zVar 0) (zC (.int 1)))) (z2 gIx (zVar 1) (z2 gIx (zVar 0) (zC (.int 2)))))))))
def f__law_weight : List D → CR := callF 2 2 m__law_weight
def m__law_step : MS := (sSeq (sAsg (eCallI f__law_put [0] (aCons (eVar 3) aNil)) (gN 4))
    (sSeq (sIf (tZ (z2 (gInD false) (zVar 3) (zVar 1))) (sRet (eAnd (eCall f__law_whole (aCons (eZ (z2 gIx (zVar 4) (zC (.int 0)))) aNil)) (e2 gEq (eVar 4) (eLst (aCons (eZ (z2 gIndex (zVar 1) (zVar 3))) aNil))))) sNil)
    (sSeq (sIf (tOr (tE (e2 gGt (eCallZ f__law_weight (zaCons (zVar 3) (zaCons (zVar 2) zaNil))) (eZ (zC (.int 16))))) (tZ (z2 gGt (zC' gLen (zaCons (zVar 1) zaNil)) (zC (.int 59))))) (sRet (e2 gEq (eVar 4) (eLst (aCons (eZ (zC (.str "refused"))) aNil)))) sNil)
    (sSeq (sApp 1 (eVar 3))
    (sSeq (sApp 2 (eCallZ f__law_weight (zaCons (zVar 3) (zaCons (zVar 2) zaNil))))
    (sRet (eAnd (eCall f__law_whole (aCons (eZ (z2 gIx (zVar 4) (zC (.int 0)))) aNil)) (e2 gEq (eVar 4) (eLst (aCons (eZ (z2 gSub (zC' gLen (zaCons (zVar 1) zaNil)) (zC (.int 1)))) aNil))))))))))
def f__law_step : List D → CR2 := callFI 4 5 3 m__law_step
def m__law_node : MS := (sSeq (sIf (tOr (tZ (z2 gEq (zVar 1) (zC (.int 0)))) (tZ (z2 gEq (z2 gMod (zVar 0) (zC (.int 8))) (zC (.int 0))))) (sSeq (sAsg (eZ (z2 gAdd (zC (.int 1)) (z2 gMod (z2 gDiv (zVar 0) (zC (.int 8))) (zC (.int 4))))) (gN 2))
    (sRet (eTup (aCons (eZ (zC (.str "number"))) (aCons (eZ (z2 gAdd (z2 gMulA (zVar 2) (z2 gSub (z2 gMod (z2 gDiv (zVar 0) (zC (.int 32))) (zC (.int 2001))) (zC (.int 1000)))) (zC (.int 1)))) (aCons (eVar 2) aNil)))))) sNil)
    (sSeq (sIf (tZ (z2 gEq (z2 gMod (zVar 0) (zC (.int 8))) (zC (.int 1)))) (sRet (eTup (aCons (eZ (zC (.str "unknown"))) (aCons (eZ (z2 gMod (z2 gDiv (zVar 0) (zC (.int 8))) (zC (.int 5)))) aNil)))) sNil)
    (sSeq (sAsg (eZ (z2 gMod (z2 gDiv (zVar 0) (zC (.int 8))) (zVar 1))) (gN 3))
    (sSeq (sIf (tZ (z2 gEq (z2 gMod (zVar 0) (zC (.int 8))) (zC (.int 2)))) (sRet (eTup (aCons (eZ (zC (.str "power"))) (aCons (eVar 3) (aCons (eZ (z2 gAdd (zC (.int 2)) (z2 gMod (z2 gDiv (z2 gDiv (zVar 0) (zC (.int 8))) (zVar 1)) (zC (.int 5))))) aNil))))) sNil)
    (sSeq (sAsg (eZ (z2 gMod (z2 gDiv (z2 gDiv (zVar 0) (zC (.int 8))) (zVar 1)) (zVar 1))) (gN 4))
    (sSeq (sIf (tZ (z2 gEq (z2 gMod (zVar 0) (zC (.int 8))) (zC (.int 7)))) (sAsg (eZ (z2 gSub (zVar 1) (zC (.int 1)))) (gN 4)) sNil)
    (sRet (eTup (aCons (e2 gIx (eLst (aCons (eZ (zC (.str "plus"))) (aCons (eZ (zC (.str "minus"))) (aCons (eZ (zC (.str "times"))) aNil)))) (eZ (z2 gMod (z2 gMod (zVar 0) (zC (.int 8))) (zC (.int 3))))) (aCons (eVar 3) (aCons (eVar 4) aNil)))))))))))
def f__law_node : List D → CR := callF 2 5 m__law_node
def m_Net___init__ : MS := (sSeq (sSetFld 0 "Net" "kept" (eLst aNil))
    (sSetFld 0 "Net" "heavy" (eLst aNil)))
def f_Net___init__ : List D → CR2 := callFI 1 1 1 m_Net___init__
def m_Net_weight : MS := (sRet (eZ (z2 gIx (z1 (gFld "Net" "heavy") (zVar 0)) (zVar 1))))
def f_Net_weight : List D → CR := callF 2 2 m_Net_weight
def al_weight : List (Str × (List D → CR)) := [("Net", f_Net_weight)]
def m_law : MS := (sSeq (sAsg (eMakeI "Net" f_Net___init__ aNil) (gN 1))
    (sSeq (sAsg (eMakeI "Net" f_Net___init__ aNil) (gN 2))
    (sSeq (sAsg (eLst aNil) (gN 3))
    (sSeq (sAsg (eLst aNil) (gN 4))
    (sSeq (sIf (tE (e2 gEq (e2 gMod (eCall f__law_cell_at (aCons (eVar 0) (aCons (eZ (zC (.int 0))) aNil))) (eZ (zC (.int 3)))) (eZ (zC (.int 1))))) (sFor (iR1 (aCons (e2 gAdd (eZ (zC (.int 50))) (e2 gMod (e2 gDiv (eCall f__law_cell_at (aCons (eVar 0) (aCons (eZ (zC (.int 0))) aNil))) (eZ (zC (.int 3)))) (eZ (zC (.int 14))))) aNil)) (gN 5) (sIf (tNot (tE (eCallI f__law_step [1, 3, 4] (aCons (eTup (aCons (eZ (zC (.str "number"))) (aCons (eZ (z2 gSub (zVar 5) (zC (.int 7)))) (aCons (eZ (zC (.int 1))) aNil)))) aNil)))) (sRet (eZ (zC (.bl false)))) sNil)) sNil)
    (sSeq (sFor (iL (eSlice cutLd (eVar 0) (pSome (eZ (zC (.int 1)))) (pSome (eZ (zC (.int 61)))))) (gN 6) (sIf (tNot (tE (eCallI f__law_step [1, 3, 4] (aCons (eCall f__law_node (aCons (eZ (z2 gMod (zVar 6) (z2 gPow (zC (.int 10)) (zC (.int 9))))) (aCons (eZ (zC' gLen (zaCons (zVar 3) zaNil))) aNil))) aNil)))) (sRet (eZ (zC (.bl false)))) sNil))
    (sSeq (sIf (tNot (tE (eCall f__law_listed (aCons (eVar 1) (aCons (eVar 3) aNil))))) (sRet (eZ (zC (.bl false)))) sNil)
    (sSeq (sFor (iE (aCons (eVar 4) aNil)) (gT 2 (gCons' (gN 7) (gCons' (gN 8) gNil'))) (sSeq (sAsg (eMethZ al_weight "weight" (eVar 1) (zaCons (zVar 7) zaNil)) (gN 9))
    (sIf (tOr (tNot (tE (eCall f__law_whole (aCons (eVar 9) aNil)))) (tZ (z2 gNe (zVar 9) (zVar 8)))) (sRet (eZ (zC (.bl false)))) sNil)))
    (sRet (e2 gEq (eMethZ0 al_nodes "nodes" 2) (eLst aNil)))))))))))
def f_law : List D → CR := callF 1 10 m_law
end Lw
namespace Lw
open Bn
def ntD (m : Bool) (ks : List D) (hs : List Int) : D := .obj m "Net" ["kept", "heavy"] [.lst m ks, .lst m (hs.map D.int)]
theorem init_ok : f_Net___init__ [.obj true "Net" [] []] = .ok .non [ntD true [] []] := rfl
theorem nodes_ok (ks : List D) (hs : List Int) : f_Net_nodes [ntD false ks hs] = .ok (.lst true ks) := by
  unfold f_Net_nodes m_Net_nodes ntD
  rfl
theorem fldK (m : Bool) (ks : List D) (hs : List Int) : gFld "Net" "kept" (ntD m ks hs) = some (.lst m ks) := rfl
theorem fldH (m : Bool) (ks : List D) (hs : List Int) : gFld "Net" "heavy" (ntD m ks hs) = some (.lst m (hs.map D.int)) := rfl
theorem weight_ok (ks : List D) (hs : List Int) (k : Int) {d : D} (h : gIx (.lst false (hs.map D.int)) (.int k) = some d) (hz : isFz d = true) : f_Net_weight [ntD false ks hs, .int k] = .ok d := by
  simp (disch := decide) only [f_Net_weight, m_Net_weight, fldH, h, hz, x_seq, x_seq1, x_seq2, x_seq3, x_seq4, x_seq5, x_seq6, x_nil, x_if, x_if1, x_if2, x_if3, x_ret, x_ret1, x_ret2, x_ret3, x_retN, x_asg, x_asg1, x_asg2, x_asg3, x_asg4, x_asg5, x_gN, x_drop, x_drop1, x_drop2, x_bk, x_ct, x_raise, x_tZ, x_tZ1, x_tZ2, x_tE, x_tE1, x_tE2, x_tE3, x_tAnd, x_tAnd1, x_tAnd2, x_tAnd3, x_tOr, x_tOr1, x_tOr2, x_tOr3, x_tNot, x_tNot1, x_tNot2, x_tNot3, x_tTrue, x_z2, x_z21, x_z1, x_z11, x_zC, x_zC1, x_za, x_za1, x_za0, x_zV, x_zK, x_ch, x_ch1, x_ch2, x_eZ, x_eZ1, x_eZ2, x_eV, x_eV1, x_eM, x_eM1, x_b1, x_b2, x_b3, x_s1, x_s2, x_s3, x_oO, x_oO2, x_e2, x_e1, x_eC, x_aN, x_aC, x_tup, x_lst, x_call, x_oC1, x_oC2, x_call0, x_call01, x_eAnd, x_eAnd1, x_eOr, x_eOr1, x_eNot, x_eNot1, x_eIf, x_eIf1, x_fz_int, x_fr_int, x_fz_bl, x_fr_bl, x_fz_str, x_fr_str, x_fz_ty, x_fr_ty, x_fz_tup, x_fr_tup, x_fz_cst, x_fr_cst, x_fz_lst_false, x_fr_lst_false, x_fz_non, x_fr_non, x_fz_lt, x_fr_lt, x_fL0, x_fL1, x_cF, x_cR1, x_cR2, x_cR3, x_iL, x_iL1, x_iT, x_iT1, x_iS, x_iS1, x_iR1, x_iR11, x_iR2, x_iR21, x_iE, x_iE1, x_iV, x_iV1, x_iZ, x_iZ1, x_for, x_fo0, x_fo1, x_fo2, x_fo3, x_fo4, x_fo5, x_fo6, x_fo7, x_gT, x_gC, x_gC0, x_try, x_try1, x_try2, x_try3, x_try4, x_try5, x_nx1, x_nx2, x_try6, x_try7, x_nx3, x_nx4, x_app, x_app1, x_app2, x_lc, x_lcE, x_lc0, x_lc1, x_lcG, x_w0, x_w1, vMinL4, vMaxL4, vAll3, vAny3, vAll4, vAny4, x_wh1, x_wh2, x_wh0, x_abs, vI_ii, vI_ib, vI_it, vI_il, vI_is, vI_bb, vI_bi, vI_tt, vI_tl, vI_ti, vI_ll, vI_lt, vI_ss, vEqB, vNeB, x_ta, x_ta1, x_ta2, x_ta3, x_ta4, x_ta5, x_is, nc_0, nc_1, nc_2, nc_3, nc_4, nc_5, nc_6, nc_7, nc_8, nc_9, nc_10, nc_11, vMax2, vMin2, vIsN0, vIsN1, vNotN0, vNotN1, vIsN2, vNotN2, x_lo, x_lo1, x_lo2, vAll2, vAny2, x_sl, x_sl1, x_sl2, x_pn, x_ps, x_ps1, x_cutL, x_cutC, vEqS, vNeS, x_fz_obj, x_fr_obj, x_make, x_meth, x_meth2, x_meth3, x_isO, x_isO1, x_cat, x_cat1, x_methZ, x_methZ2, x_methZ3, x_callZ, x_callZ1, x_lend1, x_lend2, x_cl_int, x_cl_bl, x_cl_str, x_cl_non, x_cl_tup, x_cl0, x_cl1, x_cl_lst, x_setIx, x_setIx1, x_setIx2, x_callI, x_callI1, x_callI2, x_callI3, x_take0, x_take1, x_take2, x_put0, x_put1, x_cFI, x_cRI1, x_cRI2, x_outR, x_outR1, x_out1, x_out2, x_par, x_par1, x_sort, x_sort1, x_sort2, x_io2, x_io4, vIsB, x_pop, x_lr, x_lr1, x_clr, x_clr1, x_clrE, x_clrE1, x_pop1, x_pop2, x_ins, x_ins1, x_ins2, x_sk, x_sk1, x_sk2, x_sk3, x_ck, x_ck1, x_lk, x_lk1, x_iK, x_iK1, x_forB, x_fbD, x_fbR, x_fbR2, x_fzE, vInt1, vInt2, x_tupO, x_tupO1, x_tupO2, x_e2Z, x_e2Z1, x_appF, x_appF1, x_appF2, x_appF3, x_setF, x_setF1, x_setF2, x_setF3, x_setFd, x_setFd1, x_makeI, x_makeI1, x_methI, x_methI1, x_methI2, x_mz0, x_mz01, x_mz02, x_mz03, x_m0, x_m01, x_m02, x_m03, x_fz_objt, x_fr_objt, List.all_cons, List.all_nil, Option.isSome_some, Option.map_some, List.getD_cons_zero, List.getD_cons_succ, List.set_cons_zero, List.set_cons_succ, List.map_cons, List.map_nil, List.replicate_zero, List.replicate_succ, List.length_cons, List.length_nil, List.cons_append, List.nil_append, Option.bind_some, if_true, if_false, Bool.false_eq_true, Nat.reduceSub, Nat.reduceAdd, Nat.reduceLeDiff, Nat.reduceLT, vAdd, vSub, vLt, vLe, vGt, vGe, vNeg, vEq, vNe, vEq2, vNe2, vMod, vDiv, vMul, vPow, Int.reduceToNat, vIx0, vIx1, vLenT, vLenC, vLenL, reduceIte, decide_true, decide_false, Bool.not_true, Bool.not_false, beq_self_eq_true, Bool.and_true, Bool.true_and, Bool.and_self, Bool.and_false, Bool.false_and]
theorem appK {ks : List D} {hs : List Int} {n : D} {τ : Bn.Env} (hl : ks.length < 1000) : appF1 0 "Net" "kept" (some (ntD true ks hs)) (.ok n τ) = .nx (τ.set 0 (some (ntD true (ks ++ [n]) hs))) := by
  show (if ks.length < 1000000 then SR.nx _ else .bad) = _
  rw [if_pos (by omega)]; rfl
theorem appH {ks : List D} {hs : List Int} {w : Int} {τ : Bn.Env} (hl : hs.length < 1000) : appF1 0 "Net" "heavy" (some (ntD true ks hs)) (.ok (.int w) τ) = .nx (τ.set 0 (some (ntD true ks (hs ++ [w])))) := by
  show (if (hs.map D.int).length < 1000000 then SR.nx _ else .bad) = _
  rw [if_pos (by rw [List.length_map]; omega)]
  unfold ntD
  rw [List.map_append]; rfl
theorem put_old {ks : List D} {hs : List Int} {n r : D} (h : gInD false n (.lst true ks) = some (.bl true)) (hr : gIndex (.lst true ks) n = some r) (hz : isFz n = true) (hzr : isFz r = true) : f_Net_put [ntD true ks hs, n] = .ok r [some (ntD true ks hs)] := by
  unfold f_Net_put callFG
  simp (disch := decide) only [m_Net_put, fldK, fldH, h, hr, hz, hzr, List.length_cons, List.length_nil, List.map_cons, List.map_nil, if_true, x_seq, x_seq1, x_seq2, x_seq3, x_seq4, x_seq5, x_seq6, x_nil, x_if, x_if1, x_if2, x_if3, x_ret, x_ret1, x_ret2, x_ret3, x_retN, x_asg, x_asg1, x_asg2, x_asg3, x_asg4, x_asg5, x_gN, x_drop, x_drop1, x_drop2, x_bk, x_ct, x_raise, x_tZ, x_tZ1, x_tZ2, x_tE, x_tE1, x_tE2, x_tE3, x_tAnd, x_tAnd1, x_tAnd2, x_tAnd3, x_tOr, x_tOr1, x_tOr2, x_tOr3, x_tNot, x_tNot1, x_tNot2, x_tNot3, x_tTrue, x_z2, x_z21, x_z1, x_z11, x_zC, x_zC1, x_za, x_za1, x_za0, x_zV, x_zK, x_ch, x_ch1, x_ch2, x_eZ, x_eZ1, x_eZ2, x_eV, x_eV1, x_eM, x_eM1, x_b1, x_b2, x_b3, x_s1, x_s2, x_s3, x_oO, x_oO2, x_e2, x_e1, x_eC, x_aN, x_aC, x_tup, x_lst, x_call, x_oC1, x_oC2, x_call0, x_call01, x_eAnd, x_eAnd1, x_eOr, x_eOr1, x_eNot, x_eNot1, x_eIf, x_eIf1, x_fz_int, x_fr_int, x_fz_bl, x_fr_bl, x_fz_str, x_fr_str, x_fz_ty, x_fr_ty, x_fz_tup, x_fr_tup, x_fz_cst, x_fr_cst, x_fz_lst_false, x_fr_lst_false, x_fz_non, x_fr_non, x_fz_lt, x_fr_lt, x_fL0, x_fL1, x_cF, x_cR1, x_cR2, x_cR3, x_iL, x_iL1, x_iT, x_iT1, x_iS, x_iS1, x_iR1, x_iR11, x_iR2, x_iR21, x_iE, x_iE1, x_iV, x_iV1, x_iZ, x_iZ1, x_for, x_fo0, x_fo1, x_fo2, x_fo3, x_fo4, x_fo5, x_fo6, x_fo7, x_gT, x_gC, x_gC0, x_try, x_try1, x_try2, x_try3, x_try4, x_try5, x_nx1, x_nx2, x_try6, x_try7, x_nx3, x_nx4, x_app, x_app1, x_app2, x_lc, x_lcE, x_lc0, x_lc1, x_lcG, x_w0, x_w1, vMinL4, vMaxL4, vAll3, vAny3, vAll4, vAny4, x_wh1, x_wh2, x_wh0, x_abs, vI_ii, vI_ib, vI_it, vI_il, vI_is, vI_bb, vI_bi, vI_tt, vI_tl, vI_ti, vI_ll, vI_lt, vI_ss, vEqB, vNeB, x_ta, x_ta1, x_ta2, x_ta3, x_ta4, x_ta5, x_is, nc_0, nc_1, nc_2, nc_3, nc_4, nc_5, nc_6, nc_7, nc_8, nc_9, nc_10, nc_11, vMax2, vMin2, vIsN0, vIsN1, vNotN0, vNotN1, vIsN2, vNotN2, x_lo, x_lo1, x_lo2, vAll2, vAny2, x_sl, x_sl1, x_sl2, x_pn, x_ps, x_ps1, x_cutL, x_cutC, vEqS, vNeS, x_fz_obj, x_fr_obj, x_make, x_meth, x_meth2, x_meth3, x_isO, x_isO1, x_cat, x_cat1, x_methZ, x_methZ2, x_methZ3, x_callZ, x_callZ1, x_lend1, x_lend2, x_cl_int, x_cl_bl, x_cl_str, x_cl_non, x_cl_tup, x_cl0, x_cl1, x_cl_lst, x_setIx, x_setIx1, x_setIx2, x_callI, x_callI1, x_callI2, x_callI3, x_take0, x_take1, x_take2, x_put0, x_put1, x_cFI, x_cRI1, x_cRI2, x_outR, x_outR1, x_out1, x_out2, x_par, x_par1, x_sort, x_sort1, x_sort2, x_io2, x_io4, vIsB, x_pop, x_lr, x_lr1, x_clr, x_clr1, x_clrE, x_clrE1, x_pop1, x_pop2, x_ins, x_ins1, x_ins2, x_sk, x_sk1, x_sk2, x_sk3, x_ck, x_ck1, x_lk, x_lk1, x_iK, x_iK1, x_forB, x_fbD, x_fbR, x_fbR2, x_fzE, vInt1, vInt2, x_tupO, x_tupO1, x_tupO2, x_e2Z, x_e2Z1, x_appF, x_appF1, x_appF2, x_appF3, x_setF, x_setF1, x_setF2, x_setF3, x_setFd, x_setFd1, x_makeI, x_makeI1, x_methI, x_methI1, x_methI2, x_mz0, x_mz01, x_mz02, x_mz03, x_m0, x_m01, x_m02, x_m03, x_fz_objt, x_fr_objt, List.all_cons, List.all_nil, Option.isSome_some, Option.map_some, List.getD_cons_zero, List.getD_cons_succ, List.set_cons_zero, List.set_cons_succ, List.map_cons, List.map_nil, List.replicate_zero, List.replicate_succ, List.length_cons, List.length_nil, List.cons_append, List.nil_append, Option.bind_some, if_true, if_false, Bool.false_eq_true, Nat.reduceSub, Nat.reduceAdd, Nat.reduceLeDiff, Nat.reduceLT, vAdd, vSub, vLt, vLe, vGt, vGe, vNeg, vEq, vNe, vEq2, vNe2, vMod, vDiv, vMul, vPow, Int.reduceToNat, vIx0, vIx1, vLenT, vLenC, vLenL, reduceIte, decide_true, decide_false, Bool.not_true, Bool.not_false, beq_self_eq_true, Bool.and_true, Bool.true_and, Bool.and_self, Bool.and_false, Bool.false_and]
  rfl
theorem put_full {ks : List D} {hs : List Int} {n : D} {w : Int} (h : gInD false n (.lst true ks) = some (.bl false)) (hz : isFz n = true) (hw : f_weight_of [n, .lst false (hs.map D.int)] = .ok (.int w)) (hx : 16 < w ∨ 60 ≤ ks.length) : f_Net_put [ntD true ks hs, n] = .ex "TooMuch" [some (ntD true ks hs)] := by
  have e1 : freeze (.lst true (hs.map D.int)) = .lst false (hs.map D.int) := by
    show D.lst false (freezeL (hs.map D.int)) = _
    rw [fz_map (fun _ => rfl) hs]
  have e2 : freeze n = n := freeze_of hz
  unfold f_Net_put callFG
  by_cases c : 16 < w
  · simp (disch := decide) only [m_Net_put, fldK, fldH, h, hz, hw, e1, e2, eCallZ, lendR, k_HEAVIEST, List.length_cons, List.length_nil, List.map_cons, List.map_nil, if_true, decide_eq_true c, x_seq, x_seq1, x_seq2, x_seq3, x_seq4, x_seq5, x_seq6, x_nil, x_if, x_if1, x_if2, x_if3, x_ret, x_ret1, x_ret2, x_ret3, x_retN, x_asg, x_asg1, x_asg2, x_asg3, x_asg4, x_asg5, x_gN, x_drop, x_drop1, x_drop2, x_bk, x_ct, x_raise, x_tZ, x_tZ1, x_tZ2, x_tE, x_tE1, x_tE2, x_tE3, x_tAnd, x_tAnd1, x_tAnd2, x_tAnd3, x_tOr, x_tOr1, x_tOr2, x_tOr3, x_tNot, x_tNot1, x_tNot2, x_tNot3, x_tTrue, x_z2, x_z21, x_z1, x_z11, x_zC, x_zC1, x_za, x_za1, x_za0, x_zV, x_zK, x_ch, x_ch1, x_ch2, x_eZ, x_eZ1, x_eZ2, x_eV, x_eV1, x_eM, x_eM1, x_b1, x_b2, x_b3, x_s1, x_s2, x_s3, x_oO, x_oO2, x_e2, x_e1, x_eC, x_aN, x_aC, x_tup, x_lst, x_call, x_oC1, x_oC2, x_call0, x_call01, x_eAnd, x_eAnd1, x_eOr, x_eOr1, x_eNot, x_eNot1, x_eIf, x_eIf1, x_fz_int, x_fr_int, x_fz_bl, x_fr_bl, x_fz_str, x_fr_str, x_fz_ty, x_fr_ty, x_fz_tup, x_fr_tup, x_fz_cst, x_fr_cst, x_fz_lst_false, x_fr_lst_false, x_fz_non, x_fr_non, x_fz_lt, x_fr_lt, x_fL0, x_fL1, x_cF, x_cR1, x_cR2, x_cR3, x_iL, x_iL1, x_iT, x_iT1, x_iS, x_iS1, x_iR1, x_iR11, x_iR2, x_iR21, x_iE, x_iE1, x_iV, x_iV1, x_iZ, x_iZ1, x_for, x_fo0, x_fo1, x_fo2, x_fo3, x_fo4, x_fo5, x_fo6, x_fo7, x_gT, x_gC, x_gC0, x_try, x_try1, x_try2, x_try3, x_try4, x_try5, x_nx1, x_nx2, x_try6, x_try7, x_nx3, x_nx4, x_app, x_app1, x_app2, x_lc, x_lcE, x_lc0, x_lc1, x_lcG, x_w0, x_w1, vMinL4, vMaxL4, vAll3, vAny3, vAll4, vAny4, x_wh1, x_wh2, x_wh0, x_abs, vI_ii, vI_ib, vI_it, vI_il, vI_is, vI_bb, vI_bi, vI_tt, vI_tl, vI_ti, vI_ll, vI_lt, vI_ss, vEqB, vNeB, x_ta, x_ta1, x_ta2, x_ta3, x_ta4, x_ta5, x_is, nc_0, nc_1, nc_2, nc_3, nc_4, nc_5, nc_6, nc_7, nc_8, nc_9, nc_10, nc_11, vMax2, vMin2, vIsN0, vIsN1, vNotN0, vNotN1, vIsN2, vNotN2, x_lo, x_lo1, x_lo2, vAll2, vAny2, x_sl, x_sl1, x_sl2, x_pn, x_ps, x_ps1, x_cutL, x_cutC, vEqS, vNeS, x_fz_obj, x_fr_obj, x_make, x_meth, x_meth2, x_meth3, x_isO, x_isO1, x_cat, x_cat1, x_methZ, x_methZ2, x_methZ3, x_callZ, x_callZ1, x_lend1, x_lend2, x_cl_int, x_cl_bl, x_cl_str, x_cl_non, x_cl_tup, x_cl0, x_cl1, x_cl_lst, x_setIx, x_setIx1, x_setIx2, x_callI, x_callI1, x_callI2, x_callI3, x_take0, x_take1, x_take2, x_put0, x_put1, x_cFI, x_cRI1, x_cRI2, x_outR, x_outR1, x_out1, x_out2, x_par, x_par1, x_sort, x_sort1, x_sort2, x_io2, x_io4, vIsB, x_pop, x_lr, x_lr1, x_clr, x_clr1, x_clrE, x_clrE1, x_pop1, x_pop2, x_ins, x_ins1, x_ins2, x_sk, x_sk1, x_sk2, x_sk3, x_ck, x_ck1, x_lk, x_lk1, x_iK, x_iK1, x_forB, x_fbD, x_fbR, x_fbR2, x_fzE, vInt1, vInt2, x_tupO, x_tupO1, x_tupO2, x_e2Z, x_e2Z1, x_appF, x_appF1, x_appF2, x_appF3, x_setF, x_setF1, x_setF2, x_setF3, x_setFd, x_setFd1, x_makeI, x_makeI1, x_methI, x_methI1, x_methI2, x_mz0, x_mz01, x_mz02, x_mz03, x_m0, x_m01, x_m02, x_m03, x_fz_objt, x_fr_objt, List.all_cons, List.all_nil, Option.isSome_some, Option.map_some, List.getD_cons_zero, List.getD_cons_succ, List.set_cons_zero, List.set_cons_succ, List.map_cons, List.map_nil, List.replicate_zero, List.replicate_succ, List.length_cons, List.length_nil, List.cons_append, List.nil_append, Option.bind_some, if_true, if_false, Bool.false_eq_true, Nat.reduceSub, Nat.reduceAdd, Nat.reduceLeDiff, Nat.reduceLT, vAdd, vSub, vLt, vLe, vGt, vGe, vNeg, vEq, vNe, vEq2, vNe2, vMod, vDiv, vMul, vPow, Int.reduceToNat, vIx0, vIx1, vLenT, vLenC, vLenL, reduceIte, decide_true, decide_false, Bool.not_true, Bool.not_false, beq_self_eq_true, Bool.and_true, Bool.true_and, Bool.and_self, Bool.and_false, Bool.false_and]
    rfl
  · have l : (60 : Int) ≤ (ks.length : Int) := by omega
    simp (disch := decide) only [m_Net_put, fldK, fldH, h, hz, hw, e1, e2, eCallZ, lendR, k_HEAVIEST, k_MOST, List.length_cons, List.length_nil, List.map_cons, List.map_nil, if_true, decide_eq_false c, decide_eq_true l, x_seq, x_seq1, x_seq2, x_seq3, x_seq4, x_seq5, x_seq6, x_nil, x_if, x_if1, x_if2, x_if3, x_ret, x_ret1, x_ret2, x_ret3, x_retN, x_asg, x_asg1, x_asg2, x_asg3, x_asg4, x_asg5, x_gN, x_drop, x_drop1, x_drop2, x_bk, x_ct, x_raise, x_tZ, x_tZ1, x_tZ2, x_tE, x_tE1, x_tE2, x_tE3, x_tAnd, x_tAnd1, x_tAnd2, x_tAnd3, x_tOr, x_tOr1, x_tOr2, x_tOr3, x_tNot, x_tNot1, x_tNot2, x_tNot3, x_tTrue, x_z2, x_z21, x_z1, x_z11, x_zC, x_zC1, x_za, x_za1, x_za0, x_zV, x_zK, x_ch, x_ch1, x_ch2, x_eZ, x_eZ1, x_eZ2, x_eV, x_eV1, x_eM, x_eM1, x_b1, x_b2, x_b3, x_s1, x_s2, x_s3, x_oO, x_oO2, x_e2, x_e1, x_eC, x_aN, x_aC, x_tup, x_lst, x_call, x_oC1, x_oC2, x_call0, x_call01, x_eAnd, x_eAnd1, x_eOr, x_eOr1, x_eNot, x_eNot1, x_eIf, x_eIf1, x_fz_int, x_fr_int, x_fz_bl, x_fr_bl, x_fz_str, x_fr_str, x_fz_ty, x_fr_ty, x_fz_tup, x_fr_tup, x_fz_cst, x_fr_cst, x_fz_lst_false, x_fr_lst_false, x_fz_non, x_fr_non, x_fz_lt, x_fr_lt, x_fL0, x_fL1, x_cF, x_cR1, x_cR2, x_cR3, x_iL, x_iL1, x_iT, x_iT1, x_iS, x_iS1, x_iR1, x_iR11, x_iR2, x_iR21, x_iE, x_iE1, x_iV, x_iV1, x_iZ, x_iZ1, x_for, x_fo0, x_fo1, x_fo2, x_fo3, x_fo4, x_fo5, x_fo6, x_fo7, x_gT, x_gC, x_gC0, x_try, x_try1, x_try2, x_try3, x_try4, x_try5, x_nx1, x_nx2, x_try6, x_try7, x_nx3, x_nx4, x_app, x_app1, x_app2, x_lc, x_lcE, x_lc0, x_lc1, x_lcG, x_w0, x_w1, vMinL4, vMaxL4, vAll3, vAny3, vAll4, vAny4, x_wh1, x_wh2, x_wh0, x_abs, vI_ii, vI_ib, vI_it, vI_il, vI_is, vI_bb, vI_bi, vI_tt, vI_tl, vI_ti, vI_ll, vI_lt, vI_ss, vEqB, vNeB, x_ta, x_ta1, x_ta2, x_ta3, x_ta4, x_ta5, x_is, nc_0, nc_1, nc_2, nc_3, nc_4, nc_5, nc_6, nc_7, nc_8, nc_9, nc_10, nc_11, vMax2, vMin2, vIsN0, vIsN1, vNotN0, vNotN1, vIsN2, vNotN2, x_lo, x_lo1, x_lo2, vAll2, vAny2, x_sl, x_sl1, x_sl2, x_pn, x_ps, x_ps1, x_cutL, x_cutC, vEqS, vNeS, x_fz_obj, x_fr_obj, x_make, x_meth, x_meth2, x_meth3, x_isO, x_isO1, x_cat, x_cat1, x_methZ, x_methZ2, x_methZ3, x_callZ, x_callZ1, x_lend1, x_lend2, x_cl_int, x_cl_bl, x_cl_str, x_cl_non, x_cl_tup, x_cl0, x_cl1, x_cl_lst, x_setIx, x_setIx1, x_setIx2, x_callI, x_callI1, x_callI2, x_callI3, x_take0, x_take1, x_take2, x_put0, x_put1, x_cFI, x_cRI1, x_cRI2, x_outR, x_outR1, x_out1, x_out2, x_par, x_par1, x_sort, x_sort1, x_sort2, x_io2, x_io4, vIsB, x_pop, x_lr, x_lr1, x_clr, x_clr1, x_clrE, x_clrE1, x_pop1, x_pop2, x_ins, x_ins1, x_ins2, x_sk, x_sk1, x_sk2, x_sk3, x_ck, x_ck1, x_lk, x_lk1, x_iK, x_iK1, x_forB, x_fbD, x_fbR, x_fbR2, x_fzE, vInt1, vInt2, x_tupO, x_tupO1, x_tupO2, x_e2Z, x_e2Z1, x_appF, x_appF1, x_appF2, x_appF3, x_setF, x_setF1, x_setF2, x_setF3, x_setFd, x_setFd1, x_makeI, x_makeI1, x_methI, x_methI1, x_methI2, x_mz0, x_mz01, x_mz02, x_mz03, x_m0, x_m01, x_m02, x_m03, x_fz_objt, x_fr_objt, List.all_cons, List.all_nil, Option.isSome_some, Option.map_some, List.getD_cons_zero, List.getD_cons_succ, List.set_cons_zero, List.set_cons_succ, List.map_cons, List.map_nil, List.replicate_zero, List.replicate_succ, List.length_cons, List.length_nil, List.cons_append, List.nil_append, Option.bind_some, if_true, if_false, Bool.false_eq_true, Nat.reduceSub, Nat.reduceAdd, Nat.reduceLeDiff, Nat.reduceLT, vAdd, vSub, vLt, vLe, vGt, vGe, vNeg, vEq, vNe, vEq2, vNe2, vMod, vDiv, vMul, vPow, Int.reduceToNat, vIx0, vIx1, vLenT, vLenC, vLenL, reduceIte, decide_true, decide_false, Bool.not_true, Bool.not_false, beq_self_eq_true, Bool.and_true, Bool.true_and, Bool.and_self, Bool.and_false, Bool.false_and]
    rfl
theorem put_new {ks : List D} {hs : List Int} {n : D} {w : Int} (h : gInD false n (.lst true ks) = some (.bl false)) (hz : isFz n = true) (hw : f_weight_of [n, .lst false (hs.map D.int)] = .ok (.int w)) (h1 : w ≤ 16) (h2 : ks.length < 60) (h3 : hs.length < 1000) : f_Net_put [ntD true ks hs, n] = .ok (.int (ks.length : Int)) [some (ntD true (ks ++ [n]) (hs ++ [w]))] := by
  have e1 : freeze (.lst true (hs.map D.int)) = .lst false (hs.map D.int) := by
    show D.lst false (freezeL (hs.map D.int)) = _
    rw [fz_map (fun _ => rfl) hs]
  have e2 : freeze n = n := freeze_of hz
  have c : ¬ 16 < w := by omega
  have l : ¬ (60 : Int) ≤ (ks.length : Int) := by omega
  unfold f_Net_put callFG
  simp (disch := decide) only [m_Net_put, fldK, fldH, h, hz, hw, e1, e2, eCallZ, lendR, k_HEAVIEST, k_MOST, List.length_cons, List.length_nil, List.map_cons, List.map_nil, if_true, decide_eq_false c, decide_eq_false l, sAppF, appK (hl := show ks.length < 1000 by omega), appH (hl := h3), x_seq, x_seq1, x_seq2, x_seq3, x_seq4, x_seq5, x_seq6, x_nil, x_if, x_if1, x_if2, x_if3, x_ret, x_ret1, x_ret2, x_ret3, x_retN, x_asg, x_asg1, x_asg2, x_asg3, x_asg4, x_asg5, x_gN, x_drop, x_drop1, x_drop2, x_bk, x_ct, x_raise, x_tZ, x_tZ1, x_tZ2, x_tE, x_tE1, x_tE2, x_tE3, x_tAnd, x_tAnd1, x_tAnd2, x_tAnd3, x_tOr, x_tOr1, x_tOr2, x_tOr3, x_tNot, x_tNot1, x_tNot2, x_tNot3, x_tTrue, x_z2, x_z21, x_z1, x_z11, x_zC, x_zC1, x_za, x_za1, x_za0, x_zV, x_zK, x_ch, x_ch1, x_ch2, x_eZ, x_eZ1, x_eZ2, x_eV, x_eV1, x_eM, x_eM1, x_b1, x_b2, x_b3, x_s1, x_s2, x_s3, x_oO, x_oO2, x_e2, x_e1, x_eC, x_aN, x_aC, x_tup, x_lst, x_call, x_oC1, x_oC2, x_call0, x_call01, x_eAnd, x_eAnd1, x_eOr, x_eOr1, x_eNot, x_eNot1, x_eIf, x_eIf1, x_fz_int, x_fr_int, x_fz_bl, x_fr_bl, x_fz_str, x_fr_str, x_fz_ty, x_fr_ty, x_fz_tup, x_fr_tup, x_fz_cst, x_fr_cst, x_fz_lst_false, x_fr_lst_false, x_fz_non, x_fr_non, x_fz_lt, x_fr_lt, x_fL0, x_fL1, x_cF, x_cR1, x_cR2, x_cR3, x_iL, x_iL1, x_iT, x_iT1, x_iS, x_iS1, x_iR1, x_iR11, x_iR2, x_iR21, x_iE, x_iE1, x_iV, x_iV1, x_iZ, x_iZ1, x_for, x_fo0, x_fo1, x_fo2, x_fo3, x_fo4, x_fo5, x_fo6, x_fo7, x_gT, x_gC, x_gC0, x_try, x_try1, x_try2, x_try3, x_try4, x_try5, x_nx1, x_nx2, x_try6, x_try7, x_nx3, x_nx4, x_app, x_app1, x_app2, x_lc, x_lcE, x_lc0, x_lc1, x_lcG, x_w0, x_w1, vMinL4, vMaxL4, vAll3, vAny3, vAll4, vAny4, x_wh1, x_wh2, x_wh0, x_abs, vI_ii, vI_ib, vI_it, vI_il, vI_is, vI_bb, vI_bi, vI_tt, vI_tl, vI_ti, vI_ll, vI_lt, vI_ss, vEqB, vNeB, x_ta, x_ta1, x_ta2, x_ta3, x_ta4, x_ta5, x_is, nc_0, nc_1, nc_2, nc_3, nc_4, nc_5, nc_6, nc_7, nc_8, nc_9, nc_10, nc_11, vMax2, vMin2, vIsN0, vIsN1, vNotN0, vNotN1, vIsN2, vNotN2, x_lo, x_lo1, x_lo2, vAll2, vAny2, x_sl, x_sl1, x_sl2, x_pn, x_ps, x_ps1, x_cutL, x_cutC, vEqS, vNeS, x_fz_obj, x_fr_obj, x_make, x_meth, x_meth2, x_meth3, x_isO, x_isO1, x_cat, x_cat1, x_methZ, x_methZ2, x_methZ3, x_callZ, x_callZ1, x_lend1, x_lend2, x_cl_int, x_cl_bl, x_cl_str, x_cl_non, x_cl_tup, x_cl0, x_cl1, x_cl_lst, x_setIx, x_setIx1, x_setIx2, x_callI, x_callI1, x_callI2, x_callI3, x_take0, x_take1, x_take2, x_put0, x_put1, x_cFI, x_cRI1, x_cRI2, x_outR, x_outR1, x_out1, x_out2, x_par, x_par1, x_sort, x_sort1, x_sort2, x_io2, x_io4, vIsB, x_pop, x_lr, x_lr1, x_clr, x_clr1, x_clrE, x_clrE1, x_pop1, x_pop2, x_ins, x_ins1, x_ins2, x_sk, x_sk1, x_sk2, x_sk3, x_ck, x_ck1, x_lk, x_lk1, x_iK, x_iK1, x_forB, x_fbD, x_fbR, x_fbR2, x_fzE, vInt1, vInt2, x_tupO, x_tupO1, x_tupO2, x_e2Z, x_e2Z1, x_appF, x_appF1, x_appF2, x_appF3, x_setF, x_setF1, x_setF2, x_setF3, x_setFd, x_setFd1, x_makeI, x_makeI1, x_methI, x_methI1, x_methI2, x_mz0, x_mz01, x_mz02, x_mz03, x_m0, x_m01, x_m02, x_m03, x_fz_objt, x_fr_objt, List.all_cons, List.all_nil, Option.isSome_some, Option.map_some, List.getD_cons_zero, List.getD_cons_succ, List.set_cons_zero, List.set_cons_succ, List.map_cons, List.map_nil, List.replicate_zero, List.replicate_succ, List.length_cons, List.length_nil, List.cons_append, List.nil_append, Option.bind_some, if_true, if_false, Bool.false_eq_true, Nat.reduceSub, Nat.reduceAdd, Nat.reduceLeDiff, Nat.reduceLT, vAdd, vSub, vLt, vLe, vGt, vGe, vNeg, vEq, vNe, vEq2, vNe2, vMod, vDiv, vMul, vPow, Int.reduceToNat, vIx0, vIx1, vLenT, vLenC, vLenL, reduceIte, decide_true, decide_false, Bool.not_true, Bool.not_false, beq_self_eq_true, Bool.and_true, Bool.true_and, Bool.and_self, Bool.and_false, Bool.false_and]
  rw [show (((ks ++ [n]).length : Int) - 1) = (ks.length : Int) by rw [List.length_append]; show ((ks.length + 1 : Nat) : Int) - 1 = _; omega]
  rfl
theorem meth_put {ks : List D} {hs : List Int} {n : D} {rest : Bn.Env} (hz : isFz n = true) : eMethG "Net" "put" f_Net_put 1 0 (aCons (eVar 1) aNil) (some (ntD true ks hs) :: some n :: rest) = gR (f_Net_put [ntD true ks hs, n]) [0] (none :: some n :: rest) := by
  have e2 : freeze n = n := freeze_of hz
  unfold eMethG
  rw [if_pos (show methOk "Net" "put" ((some (ntD true ks hs) :: some n :: rest).getD 0 none) = true from rfl)]
  unfold eCallG
  rw [if_pos (show allS [0] (some (ntD true ks hs) :: some n :: rest) = true from rfl)]
  have a : aCons (eVar 1) aNil (some (ntD true ks hs) :: some n :: rest) = .ok [n] (some (ntD true ks hs) :: some n :: rest) := by
    simp (disch := decide) only [e2, x_seq, x_seq1, x_seq2, x_seq3, x_seq4, x_seq5, x_seq6, x_nil, x_if, x_if1, x_if2, x_if3, x_ret, x_ret1, x_ret2, x_ret3, x_retN, x_asg, x_asg1, x_asg2, x_asg3, x_asg4, x_asg5, x_gN, x_drop, x_drop1, x_drop2, x_bk, x_ct, x_raise, x_tZ, x_tZ1, x_tZ2, x_tE, x_tE1, x_tE2, x_tE3, x_tAnd, x_tAnd1, x_tAnd2, x_tAnd3, x_tOr, x_tOr1, x_tOr2, x_tOr3, x_tNot, x_tNot1, x_tNot2, x_tNot3, x_tTrue, x_z2, x_z21, x_z1, x_z11, x_zC, x_zC1, x_za, x_za1, x_za0, x_zV, x_zK, x_ch, x_ch1, x_ch2, x_eZ, x_eZ1, x_eZ2, x_eV, x_eV1, x_eM, x_eM1, x_b1, x_b2, x_b3, x_s1, x_s2, x_s3, x_oO, x_oO2, x_e2, x_e1, x_eC, x_aN, x_aC, x_tup, x_lst, x_call, x_oC1, x_oC2, x_call0, x_call01, x_eAnd, x_eAnd1, x_eOr, x_eOr1, x_eNot, x_eNot1, x_eIf, x_eIf1, x_fz_int, x_fr_int, x_fz_bl, x_fr_bl, x_fz_str, x_fr_str, x_fz_ty, x_fr_ty, x_fz_tup, x_fr_tup, x_fz_cst, x_fr_cst, x_fz_lst_false, x_fr_lst_false, x_fz_non, x_fr_non, x_fz_lt, x_fr_lt, x_fL0, x_fL1, x_cF, x_cR1, x_cR2, x_cR3, x_iL, x_iL1, x_iT, x_iT1, x_iS, x_iS1, x_iR1, x_iR11, x_iR2, x_iR21, x_iE, x_iE1, x_iV, x_iV1, x_iZ, x_iZ1, x_for, x_fo0, x_fo1, x_fo2, x_fo3, x_fo4, x_fo5, x_fo6, x_fo7, x_gT, x_gC, x_gC0, x_try, x_try1, x_try2, x_try3, x_try4, x_try5, x_nx1, x_nx2, x_try6, x_try7, x_nx3, x_nx4, x_app, x_app1, x_app2, x_lc, x_lcE, x_lc0, x_lc1, x_lcG, x_w0, x_w1, vMinL4, vMaxL4, vAll3, vAny3, vAll4, vAny4, x_wh1, x_wh2, x_wh0, x_abs, vI_ii, vI_ib, vI_it, vI_il, vI_is, vI_bb, vI_bi, vI_tt, vI_tl, vI_ti, vI_ll, vI_lt, vI_ss, vEqB, vNeB, x_ta, x_ta1, x_ta2, x_ta3, x_ta4, x_ta5, x_is, nc_0, nc_1, nc_2, nc_3, nc_4, nc_5, nc_6, nc_7, nc_8, nc_9, nc_10, nc_11, vMax2, vMin2, vIsN0, vIsN1, vNotN0, vNotN1, vIsN2, vNotN2, x_lo, x_lo1, x_lo2, vAll2, vAny2, x_sl, x_sl1, x_sl2, x_pn, x_ps, x_ps1, x_cutL, x_cutC, vEqS, vNeS, x_fz_obj, x_fr_obj, x_make, x_meth, x_meth2, x_meth3, x_isO, x_isO1, x_cat, x_cat1, x_methZ, x_methZ2, x_methZ3, x_callZ, x_callZ1, x_lend1, x_lend2, x_cl_int, x_cl_bl, x_cl_str, x_cl_non, x_cl_tup, x_cl0, x_cl1, x_cl_lst, x_setIx, x_setIx1, x_setIx2, x_callI, x_callI1, x_callI2, x_callI3, x_take0, x_take1, x_take2, x_put0, x_put1, x_cFI, x_cRI1, x_cRI2, x_outR, x_outR1, x_out1, x_out2, x_par, x_par1, x_sort, x_sort1, x_sort2, x_io2, x_io4, vIsB, x_pop, x_lr, x_lr1, x_clr, x_clr1, x_clrE, x_clrE1, x_pop1, x_pop2, x_ins, x_ins1, x_ins2, x_sk, x_sk1, x_sk2, x_sk3, x_ck, x_ck1, x_lk, x_lk1, x_iK, x_iK1, x_forB, x_fbD, x_fbR, x_fbR2, x_fzE, vInt1, vInt2, x_tupO, x_tupO1, x_tupO2, x_e2Z, x_e2Z1, x_appF, x_appF1, x_appF2, x_appF3, x_setF, x_setF1, x_setF2, x_setF3, x_setFd, x_setFd1, x_makeI, x_makeI1, x_methI, x_methI1, x_methI2, x_mz0, x_mz01, x_mz02, x_mz03, x_m0, x_m01, x_m02, x_m03, x_fz_objt, x_fr_objt, List.all_cons, List.all_nil, Option.isSome_some, Option.map_some, List.getD_cons_zero, List.getD_cons_succ, List.set_cons_zero, List.set_cons_succ, List.map_cons, List.map_nil, List.replicate_zero, List.replicate_succ, List.length_cons, List.length_nil, List.cons_append, List.nil_append, Option.bind_some, if_true, if_false, Bool.false_eq_true, Nat.reduceSub, Nat.reduceAdd, Nat.reduceLeDiff, Nat.reduceLT, vAdd, vSub, vLt, vLe, vGt, vGe, vNeg, vEq, vNe, vEq2, vNe2, vMod, vDiv, vMul, vPow, Int.reduceToNat, vIx0, vIx1, vLenT, vLenC, vLenL, reduceIte, decide_true, decide_false, Bool.not_true, Bool.not_false, beq_self_eq_true, Bool.and_true, Bool.true_and, Bool.and_self, Bool.and_false, Bool.false_and]
    rw [if_pos hz]; rfl
  rw [a]
  show callG f_Net_put (true :: List.replicate 1 false) [0] none (freezeL [n]) (some (ntD true ks hs) :: some n :: rest) = _
  rw [show freezeL [n] = [freeze n] from rfl, e2]
  rfl
theorem law_put_ok {ks : List D} {hs : List Int} {n r o : D} (hz : isFz n = true) (h : f_Net_put [ntD true ks hs, n] = .ok r [some o]) (hr : isFz r = true) : f__law_put [ntD true ks hs, n] = .ok (.lst true [r]) [o] := by
  unfold f__law_put callFI
  simp (disch := decide) only [m__law_put, sTryAs, meth_put hz, h, gR, putO, List.length_cons, List.length_nil, List.map_cons, List.map_nil, if_true, x_seq, x_seq1, x_seq2, x_seq3, x_seq4, x_seq5, x_seq6, x_nil, x_if, x_if1, x_if2, x_if3, x_ret, x_ret1, x_ret2, x_ret3, x_retN, x_asg, x_asg1, x_asg2, x_asg3, x_asg4, x_asg5, x_gN, x_drop, x_drop1, x_drop2, x_bk, x_ct, x_raise, x_tZ, x_tZ1, x_tZ2, x_tE, x_tE1, x_tE2, x_tE3, x_tAnd, x_tAnd1, x_tAnd2, x_tAnd3, x_tOr, x_tOr1, x_tOr2, x_tOr3, x_tNot, x_tNot1, x_tNot2, x_tNot3, x_tTrue, x_z2, x_z21, x_z1, x_z11, x_zC, x_zC1, x_za, x_za1, x_za0, x_zV, x_zK, x_ch, x_ch1, x_ch2, x_eZ, x_eZ1, x_eZ2, x_eV, x_eV1, x_eM, x_eM1, x_b1, x_b2, x_b3, x_s1, x_s2, x_s3, x_oO, x_oO2, x_e2, x_e1, x_eC, x_aN, x_aC, x_tup, x_lst, x_call, x_oC1, x_oC2, x_call0, x_call01, x_eAnd, x_eAnd1, x_eOr, x_eOr1, x_eNot, x_eNot1, x_eIf, x_eIf1, x_fz_int, x_fr_int, x_fz_bl, x_fr_bl, x_fz_str, x_fr_str, x_fz_ty, x_fr_ty, x_fz_tup, x_fr_tup, x_fz_cst, x_fr_cst, x_fz_lst_false, x_fr_lst_false, x_fz_non, x_fr_non, x_fz_lt, x_fr_lt, x_fL0, x_fL1, x_cF, x_cR1, x_cR2, x_cR3, x_iL, x_iL1, x_iT, x_iT1, x_iS, x_iS1, x_iR1, x_iR11, x_iR2, x_iR21, x_iE, x_iE1, x_iV, x_iV1, x_iZ, x_iZ1, x_for, x_fo0, x_fo1, x_fo2, x_fo3, x_fo4, x_fo5, x_fo6, x_fo7, x_gT, x_gC, x_gC0, x_try, x_try1, x_try2, x_try3, x_try4, x_try5, x_nx1, x_nx2, x_try6, x_try7, x_nx3, x_nx4, x_app, x_app1, x_app2, x_lc, x_lcE, x_lc0, x_lc1, x_lcG, x_w0, x_w1, vMinL4, vMaxL4, vAll3, vAny3, vAll4, vAny4, x_wh1, x_wh2, x_wh0, x_abs, vI_ii, vI_ib, vI_it, vI_il, vI_is, vI_bb, vI_bi, vI_tt, vI_tl, vI_ti, vI_ll, vI_lt, vI_ss, vEqB, vNeB, x_ta, x_ta1, x_ta2, x_ta3, x_ta4, x_ta5, x_is, nc_0, nc_1, nc_2, nc_3, nc_4, nc_5, nc_6, nc_7, nc_8, nc_9, nc_10, nc_11, vMax2, vMin2, vIsN0, vIsN1, vNotN0, vNotN1, vIsN2, vNotN2, x_lo, x_lo1, x_lo2, vAll2, vAny2, x_sl, x_sl1, x_sl2, x_pn, x_ps, x_ps1, x_cutL, x_cutC, vEqS, vNeS, x_fz_obj, x_fr_obj, x_make, x_meth, x_meth2, x_meth3, x_isO, x_isO1, x_cat, x_cat1, x_methZ, x_methZ2, x_methZ3, x_callZ, x_callZ1, x_lend1, x_lend2, x_cl_int, x_cl_bl, x_cl_str, x_cl_non, x_cl_tup, x_cl0, x_cl1, x_cl_lst, x_setIx, x_setIx1, x_setIx2, x_callI, x_callI1, x_callI2, x_callI3, x_take0, x_take1, x_take2, x_put0, x_put1, x_cFI, x_cRI1, x_cRI2, x_outR, x_outR1, x_out1, x_out2, x_par, x_par1, x_sort, x_sort1, x_sort2, x_io2, x_io4, vIsB, x_pop, x_lr, x_lr1, x_clr, x_clr1, x_clrE, x_clrE1, x_pop1, x_pop2, x_ins, x_ins1, x_ins2, x_sk, x_sk1, x_sk2, x_sk3, x_ck, x_ck1, x_lk, x_lk1, x_iK, x_iK1, x_forB, x_fbD, x_fbR, x_fbR2, x_fzE, vInt1, vInt2, x_tupO, x_tupO1, x_tupO2, x_e2Z, x_e2Z1, x_appF, x_appF1, x_appF2, x_appF3, x_setF, x_setF1, x_setF2, x_setF3, x_setFd, x_setFd1, x_makeI, x_makeI1, x_methI, x_methI1, x_methI2, x_mz0, x_mz01, x_mz02, x_mz03, x_m0, x_m01, x_m02, x_m03, x_fz_objt, x_fr_objt, List.all_cons, List.all_nil, Option.isSome_some, Option.map_some, List.getD_cons_zero, List.getD_cons_succ, List.set_cons_zero, List.set_cons_succ, List.map_cons, List.map_nil, List.replicate_zero, List.replicate_succ, List.length_cons, List.length_nil, List.cons_append, List.nil_append, Option.bind_some, if_true, if_false, Bool.false_eq_true, Nat.reduceSub, Nat.reduceAdd, Nat.reduceLeDiff, Nat.reduceLT, vAdd, vSub, vLt, vLe, vGt, vGe, vNeg, vEq, vNe, vEq2, vNe2, vMod, vDiv, vMul, vPow, Int.reduceToNat, vIx0, vIx1, vLenT, vLenC, vLenL, reduceIte, decide_true, decide_false, Bool.not_true, Bool.not_false, beq_self_eq_true, Bool.and_true, Bool.true_and, Bool.and_self, Bool.and_false, Bool.false_and]
  done
theorem law_put_ex {ks : List D} {hs : List Int} {n o : D} (hz : isFz n = true) (h : f_Net_put [ntD true ks hs, n] = .ex "TooMuch" [some o]) : f__law_put [ntD true ks hs, n] = .ok (.lst true [.str "refused"]) [o] := by
  unfold f__law_put callFI
  simp (disch := decide) only [m__law_put, sTryAs, tryAs, endAs, sub_BoxError, is_TooMuch, is_NoRow, eIs, meth_put hz, h, gR, putO, List.length_cons, List.length_nil, List.map_cons, List.map_nil, if_true, x_seq, x_seq1, x_seq2, x_seq3, x_seq4, x_seq5, x_seq6, x_nil, x_if, x_if1, x_if2, x_if3, x_ret, x_ret1, x_ret2, x_ret3, x_retN, x_asg, x_asg1, x_asg2, x_asg3, x_asg4, x_asg5, x_gN, x_drop, x_drop1, x_drop2, x_bk, x_ct, x_raise, x_tZ, x_tZ1, x_tZ2, x_tE, x_tE1, x_tE2, x_tE3, x_tAnd, x_tAnd1, x_tAnd2, x_tAnd3, x_tOr, x_tOr1, x_tOr2, x_tOr3, x_tNot, x_tNot1, x_tNot2, x_tNot3, x_tTrue, x_z2, x_z21, x_z1, x_z11, x_zC, x_zC1, x_za, x_za1, x_za0, x_zV, x_zK, x_ch, x_ch1, x_ch2, x_eZ, x_eZ1, x_eZ2, x_eV, x_eV1, x_eM, x_eM1, x_b1, x_b2, x_b3, x_s1, x_s2, x_s3, x_oO, x_oO2, x_e2, x_e1, x_eC, x_aN, x_aC, x_tup, x_lst, x_call, x_oC1, x_oC2, x_call0, x_call01, x_eAnd, x_eAnd1, x_eOr, x_eOr1, x_eNot, x_eNot1, x_eIf, x_eIf1, x_fz_int, x_fr_int, x_fz_bl, x_fr_bl, x_fz_str, x_fr_str, x_fz_ty, x_fr_ty, x_fz_tup, x_fr_tup, x_fz_cst, x_fr_cst, x_fz_lst_false, x_fr_lst_false, x_fz_non, x_fr_non, x_fz_lt, x_fr_lt, x_fL0, x_fL1, x_cF, x_cR1, x_cR2, x_cR3, x_iL, x_iL1, x_iT, x_iT1, x_iS, x_iS1, x_iR1, x_iR11, x_iR2, x_iR21, x_iE, x_iE1, x_iV, x_iV1, x_iZ, x_iZ1, x_for, x_fo0, x_fo1, x_fo2, x_fo3, x_fo4, x_fo5, x_fo6, x_fo7, x_gT, x_gC, x_gC0, x_try, x_try1, x_try2, x_try3, x_try4, x_try5, x_nx1, x_nx2, x_try6, x_try7, x_nx3, x_nx4, x_app, x_app1, x_app2, x_lc, x_lcE, x_lc0, x_lc1, x_lcG, x_w0, x_w1, vMinL4, vMaxL4, vAll3, vAny3, vAll4, vAny4, x_wh1, x_wh2, x_wh0, x_abs, vI_ii, vI_ib, vI_it, vI_il, vI_is, vI_bb, vI_bi, vI_tt, vI_tl, vI_ti, vI_ll, vI_lt, vI_ss, vEqB, vNeB, x_ta, x_ta1, x_ta2, x_ta3, x_ta4, x_ta5, x_is, nc_0, nc_1, nc_2, nc_3, nc_4, nc_5, nc_6, nc_7, nc_8, nc_9, nc_10, nc_11, vMax2, vMin2, vIsN0, vIsN1, vNotN0, vNotN1, vIsN2, vNotN2, x_lo, x_lo1, x_lo2, vAll2, vAny2, x_sl, x_sl1, x_sl2, x_pn, x_ps, x_ps1, x_cutL, x_cutC, vEqS, vNeS, x_fz_obj, x_fr_obj, x_make, x_meth, x_meth2, x_meth3, x_isO, x_isO1, x_cat, x_cat1, x_methZ, x_methZ2, x_methZ3, x_callZ, x_callZ1, x_lend1, x_lend2, x_cl_int, x_cl_bl, x_cl_str, x_cl_non, x_cl_tup, x_cl0, x_cl1, x_cl_lst, x_setIx, x_setIx1, x_setIx2, x_callI, x_callI1, x_callI2, x_callI3, x_take0, x_take1, x_take2, x_put0, x_put1, x_cFI, x_cRI1, x_cRI2, x_outR, x_outR1, x_out1, x_out2, x_par, x_par1, x_sort, x_sort1, x_sort2, x_io2, x_io4, vIsB, x_pop, x_lr, x_lr1, x_clr, x_clr1, x_clrE, x_clrE1, x_pop1, x_pop2, x_ins, x_ins1, x_ins2, x_sk, x_sk1, x_sk2, x_sk3, x_ck, x_ck1, x_lk, x_lk1, x_iK, x_iK1, x_forB, x_fbD, x_fbR, x_fbR2, x_fzE, vInt1, vInt2, x_tupO, x_tupO1, x_tupO2, x_e2Z, x_e2Z1, x_appF, x_appF1, x_appF2, x_appF3, x_setF, x_setF1, x_setF2, x_setF3, x_setFd, x_setFd1, x_makeI, x_makeI1, x_methI, x_methI1, x_methI2, x_mz0, x_mz01, x_mz02, x_mz03, x_m0, x_m01, x_m02, x_m03, x_fz_objt, x_fr_objt, List.all_cons, List.all_nil, Option.isSome_some, Option.map_some, List.getD_cons_zero, List.getD_cons_succ, List.set_cons_zero, List.set_cons_succ, List.map_cons, List.map_nil, List.replicate_zero, List.replicate_succ, List.length_cons, List.length_nil, List.cons_append, List.nil_append, Option.bind_some, if_true, if_false, Bool.false_eq_true, Nat.reduceSub, Nat.reduceAdd, Nat.reduceLeDiff, Nat.reduceLT, vAdd, vSub, vLt, vLe, vGt, vGe, vNeg, vEq, vNe, vEq2, vNe2, vMod, vDiv, vMul, vPow, Int.reduceToNat, vIx0, vIx1, vLenT, vLenC, vLenL, reduceIte, decide_true, decide_false, Bool.not_true, Bool.not_false, beq_self_eq_true, Bool.and_true, Bool.true_and, Bool.and_self, Bool.and_false, Bool.false_and]
  done
inductive Nk where
  | num (t b : Int) | unk (k : Int) | pow (i : Nat) (k : Int) | two (w : PySem.Str) (i j : Nat)
def Nk.d : Nk → D
  | .num t b => .tup [.str "number", .int t, .int b]
  | .unk k => .tup [.str "unknown", .int k]
  | .pow i k => .tup [.str "power", .int (i : Int), .int k]
  | .two w i j => .tup [.str w, .int (i : Int), .int (j : Int)]
def Nk.w (hs : List Int) : Nk → Int
  | .num _ _ => 1
  | .unk _ => 1
  | .pow i k => k * hs.getD i 0
  | .two _ i j => hs.getD i 0 + hs.getD j 0
structure Nk.Ok (n : Nat) (x : Nk) : Prop where
  p : ∀ i k, x = .pow i k → i < n ∧ 2 ≤ k ∧ k ≤ 6
  t : ∀ w i j, x = .two w i j → (w = "plus" ∨ w = "minus" ∨ w = "times") ∧ i < n ∧ j < n
theorem ix_int {hs : List Int} {i : Nat} (h : i < hs.length) (m : Bool) : gIx (.lst m (hs.map D.int)) (.int (i : Int)) = some (.int (hs.getD i 0)) := by
  rw [vIxL_of (k := i) rfl (by rw [List.getElem?_map, List.getElem?_eq_getElem h]; rfl), List.getD_eq_getElem?_getD, List.getElem?_eq_getElem h]; rfl
theorem ix2 (a b c : D) (r : List D) : gIx (.tup (a :: b :: c :: r)) (.int 2) = some c := vIxT (a :: b :: c :: r) 2
theorem in_num : gIn false (.str "number") (.tup [.str "number", .str "unknown"]) = some (.bl true) := rfl
theorem in_unk : gIn false (.str "unknown") (.tup [.str "number", .str "unknown"]) = some (.bl true) := rfl
theorem in_pow : gIn false (.str "power") (.tup [.str "number", .str "unknown"]) = some (.bl false) := rfl
theorem in_plus : gIn false (.str "plus") (.tup [.str "number", .str "unknown"]) = some (.bl false) := rfl
theorem in_minus : gIn false (.str "minus") (.tup [.str "number", .str "unknown"]) = some (.bl false) := rfl
theorem in_times : gIn false (.str "times") (.tup [.str "number", .str "unknown"]) = some (.bl false) := rfl
theorem eq_number_number : gEq (.str "number") (.str "number") = some (.bl true) := (vEqS (by decide +kernel) (by decide +kernel)).trans (congrArg (fun b => some (D.bl b)) (by decide +kernel))
theorem eq_number_unknown : gEq (.str "number") (.str "unknown") = some (.bl false) := (vEqS (by decide +kernel) (by decide +kernel)).trans (congrArg (fun b => some (D.bl b)) (by decide +kernel))
theorem eq_number_power : gEq (.str "number") (.str "power") = some (.bl false) := (vEqS (by decide +kernel) (by decide +kernel)).trans (congrArg (fun b => some (D.bl b)) (by decide +kernel))
theorem eq_unknown_number : gEq (.str "unknown") (.str "number") = some (.bl false) := (vEqS (by decide +kernel) (by decide +kernel)).trans (congrArg (fun b => some (D.bl b)) (by decide +kernel))
theorem eq_unknown_unknown : gEq (.str "unknown") (.str "unknown") = some (.bl true) := (vEqS (by decide +kernel) (by decide +kernel)).trans (congrArg (fun b => some (D.bl b)) (by decide +kernel))
theorem eq_unknown_power : gEq (.str "unknown") (.str "power") = some (.bl false) := (vEqS (by decide +kernel) (by decide +kernel)).trans (congrArg (fun b => some (D.bl b)) (by decide +kernel))
theorem eq_power_number : gEq (.str "power") (.str "number") = some (.bl false) := (vEqS (by decide +kernel) (by decide +kernel)).trans (congrArg (fun b => some (D.bl b)) (by decide +kernel))
theorem eq_power_unknown : gEq (.str "power") (.str "unknown") = some (.bl false) := (vEqS (by decide +kernel) (by decide +kernel)).trans (congrArg (fun b => some (D.bl b)) (by decide +kernel))
theorem eq_power_power : gEq (.str "power") (.str "power") = some (.bl true) := (vEqS (by decide +kernel) (by decide +kernel)).trans (congrArg (fun b => some (D.bl b)) (by decide +kernel))
theorem eq_plus_number : gEq (.str "plus") (.str "number") = some (.bl false) := (vEqS (by decide +kernel) (by decide +kernel)).trans (congrArg (fun b => some (D.bl b)) (by decide +kernel))
theorem eq_plus_unknown : gEq (.str "plus") (.str "unknown") = some (.bl false) := (vEqS (by decide +kernel) (by decide +kernel)).trans (congrArg (fun b => some (D.bl b)) (by decide +kernel))
theorem eq_plus_power : gEq (.str "plus") (.str "power") = some (.bl false) := (vEqS (by decide +kernel) (by decide +kernel)).trans (congrArg (fun b => some (D.bl b)) (by decide +kernel))
theorem eq_minus_number : gEq (.str "minus") (.str "number") = some (.bl false) := (vEqS (by decide +kernel) (by decide +kernel)).trans (congrArg (fun b => some (D.bl b)) (by decide +kernel))
theorem eq_minus_unknown : gEq (.str "minus") (.str "unknown") = some (.bl false) := (vEqS (by decide +kernel) (by decide +kernel)).trans (congrArg (fun b => some (D.bl b)) (by decide +kernel))
theorem eq_minus_power : gEq (.str "minus") (.str "power") = some (.bl false) := (vEqS (by decide +kernel) (by decide +kernel)).trans (congrArg (fun b => some (D.bl b)) (by decide +kernel))
theorem eq_times_number : gEq (.str "times") (.str "number") = some (.bl false) := (vEqS (by decide +kernel) (by decide +kernel)).trans (congrArg (fun b => some (D.bl b)) (by decide +kernel))
theorem eq_times_unknown : gEq (.str "times") (.str "unknown") = some (.bl false) := (vEqS (by decide +kernel) (by decide +kernel)).trans (congrArg (fun b => some (D.bl b)) (by decide +kernel))
theorem eq_times_power : gEq (.str "times") (.str "power") = some (.bl false) := (vEqS (by decide +kernel) (by decide +kernel)).trans (congrArg (fun b => some (D.bl b)) (by decide +kernel))
theorem wt_num {hs : List Int} {t b : Int}  : f_weight_of [Nk.d (.num t b), .lst false (hs.map D.int)] = .ok (.int (1)) := by
  simp (disch := decide) only [f_weight_of, m_weight_of, Nk.d, ix2, in_num, in_unk, in_pow, in_plus, in_minus, in_times, eq_number_number, eq_number_unknown, eq_number_power, eq_unknown_number, eq_unknown_unknown, eq_unknown_power, eq_power_number, eq_power_unknown, eq_power_power, eq_plus_number, eq_plus_unknown, eq_plus_power, eq_minus_number, eq_minus_unknown, eq_minus_power, eq_times_number, eq_times_unknown, eq_times_power, x_seq, x_seq1, x_seq2, x_seq3, x_seq4, x_seq5, x_seq6, x_nil, x_if, x_if1, x_if2, x_if3, x_ret, x_ret1, x_ret2, x_ret3, x_retN, x_asg, x_asg1, x_asg2, x_asg3, x_asg4, x_asg5, x_gN, x_drop, x_drop1, x_drop2, x_bk, x_ct, x_raise, x_tZ, x_tZ1, x_tZ2, x_tE, x_tE1, x_tE2, x_tE3, x_tAnd, x_tAnd1, x_tAnd2, x_tAnd3, x_tOr, x_tOr1, x_tOr2, x_tOr3, x_tNot, x_tNot1, x_tNot2, x_tNot3, x_tTrue, x_z2, x_z21, x_z1, x_z11, x_zC, x_zC1, x_za, x_za1, x_za0, x_zV, x_zK, x_ch, x_ch1, x_ch2, x_eZ, x_eZ1, x_eZ2, x_eV, x_eV1, x_eM, x_eM1, x_b1, x_b2, x_b3, x_s1, x_s2, x_s3, x_oO, x_oO2, x_e2, x_e1, x_eC, x_aN, x_aC, x_tup, x_lst, x_call, x_oC1, x_oC2, x_call0, x_call01, x_eAnd, x_eAnd1, x_eOr, x_eOr1, x_eNot, x_eNot1, x_eIf, x_eIf1, x_fz_int, x_fr_int, x_fz_bl, x_fr_bl, x_fz_str, x_fr_str, x_fz_ty, x_fr_ty, x_fz_tup, x_fr_tup, x_fz_cst, x_fr_cst, x_fz_lst_false, x_fr_lst_false, x_fz_non, x_fr_non, x_fz_lt, x_fr_lt, x_fL0, x_fL1, x_cF, x_cR1, x_cR2, x_cR3, x_iL, x_iL1, x_iT, x_iT1, x_iS, x_iS1, x_iR1, x_iR11, x_iR2, x_iR21, x_iE, x_iE1, x_iV, x_iV1, x_iZ, x_iZ1, x_for, x_fo0, x_fo1, x_fo2, x_fo3, x_fo4, x_fo5, x_fo6, x_fo7, x_gT, x_gC, x_gC0, x_try, x_try1, x_try2, x_try3, x_try4, x_try5, x_nx1, x_nx2, x_try6, x_try7, x_nx3, x_nx4, x_app, x_app1, x_app2, x_lc, x_lcE, x_lc0, x_lc1, x_lcG, x_w0, x_w1, vMinL4, vMaxL4, vAll3, vAny3, vAll4, vAny4, x_wh1, x_wh2, x_wh0, x_abs, vI_ii, vI_ib, vI_it, vI_il, vI_is, vI_bb, vI_bi, vI_tt, vI_tl, vI_ti, vI_ll, vI_lt, vI_ss, vEqB, vNeB, x_ta, x_ta1, x_ta2, x_ta3, x_ta4, x_ta5, x_is, nc_0, nc_1, nc_2, nc_3, nc_4, nc_5, nc_6, nc_7, nc_8, nc_9, nc_10, nc_11, vMax2, vMin2, vIsN0, vIsN1, vNotN0, vNotN1, vIsN2, vNotN2, x_lo, x_lo1, x_lo2, vAll2, vAny2, x_sl, x_sl1, x_sl2, x_pn, x_ps, x_ps1, x_cutL, x_cutC, vEqS, vNeS, x_fz_obj, x_fr_obj, x_make, x_meth, x_meth2, x_meth3, x_isO, x_isO1, x_cat, x_cat1, x_methZ, x_methZ2, x_methZ3, x_callZ, x_callZ1, x_lend1, x_lend2, x_cl_int, x_cl_bl, x_cl_str, x_cl_non, x_cl_tup, x_cl0, x_cl1, x_cl_lst, x_setIx, x_setIx1, x_setIx2, x_callI, x_callI1, x_callI2, x_callI3, x_take0, x_take1, x_take2, x_put0, x_put1, x_cFI, x_cRI1, x_cRI2, x_outR, x_outR1, x_out1, x_out2, x_par, x_par1, x_sort, x_sort1, x_sort2, x_io2, x_io4, vIsB, x_pop, x_lr, x_lr1, x_clr, x_clr1, x_clrE, x_clrE1, x_pop1, x_pop2, x_ins, x_ins1, x_ins2, x_sk, x_sk1, x_sk2, x_sk3, x_ck, x_ck1, x_lk, x_lk1, x_iK, x_iK1, x_forB, x_fbD, x_fbR, x_fbR2, x_fzE, vInt1, vInt2, x_tupO, x_tupO1, x_tupO2, x_e2Z, x_e2Z1, x_appF, x_appF1, x_appF2, x_appF3, x_setF, x_setF1, x_setF2, x_setF3, x_setFd, x_setFd1, x_makeI, x_makeI1, x_methI, x_methI1, x_methI2, x_mz0, x_mz01, x_mz02, x_mz03, x_m0, x_m01, x_m02, x_m03, x_fz_objt, x_fr_objt, List.all_cons, List.all_nil, Option.isSome_some, Option.map_some, List.getD_cons_zero, List.getD_cons_succ, List.set_cons_zero, List.set_cons_succ, List.map_cons, List.map_nil, List.replicate_zero, List.replicate_succ, List.length_cons, List.length_nil, List.cons_append, List.nil_append, Option.bind_some, if_true, if_false, Bool.false_eq_true, Nat.reduceSub, Nat.reduceAdd, Nat.reduceLeDiff, Nat.reduceLT, vAdd, vSub, vLt, vLe, vGt, vGe, vNeg, vEq, vNe, vEq2, vNe2, vMod, vDiv, vMul, vPow, Int.reduceToNat, vIx0, vIx1, vLenT, vLenC, vLenL, reduceIte, decide_true, decide_false, Bool.not_true, Bool.not_false, beq_self_eq_true, Bool.and_true, Bool.true_and, Bool.and_self, Bool.and_false, Bool.false_and]
  done
theorem wt_unk {hs : List Int} {k : Int}  : f_weight_of [Nk.d (.unk k), .lst false (hs.map D.int)] = .ok (.int (1)) := by
  simp (disch := decide) only [f_weight_of, m_weight_of, Nk.d, ix2, in_num, in_unk, in_pow, in_plus, in_minus, in_times, eq_number_number, eq_number_unknown, eq_number_power, eq_unknown_number, eq_unknown_unknown, eq_unknown_power, eq_power_number, eq_power_unknown, eq_power_power, eq_plus_number, eq_plus_unknown, eq_plus_power, eq_minus_number, eq_minus_unknown, eq_minus_power, eq_times_number, eq_times_unknown, eq_times_power, x_seq, x_seq1, x_seq2, x_seq3, x_seq4, x_seq5, x_seq6, x_nil, x_if, x_if1, x_if2, x_if3, x_ret, x_ret1, x_ret2, x_ret3, x_retN, x_asg, x_asg1, x_asg2, x_asg3, x_asg4, x_asg5, x_gN, x_drop, x_drop1, x_drop2, x_bk, x_ct, x_raise, x_tZ, x_tZ1, x_tZ2, x_tE, x_tE1, x_tE2, x_tE3, x_tAnd, x_tAnd1, x_tAnd2, x_tAnd3, x_tOr, x_tOr1, x_tOr2, x_tOr3, x_tNot, x_tNot1, x_tNot2, x_tNot3, x_tTrue, x_z2, x_z21, x_z1, x_z11, x_zC, x_zC1, x_za, x_za1, x_za0, x_zV, x_zK, x_ch, x_ch1, x_ch2, x_eZ, x_eZ1, x_eZ2, x_eV, x_eV1, x_eM, x_eM1, x_b1, x_b2, x_b3, x_s1, x_s2, x_s3, x_oO, x_oO2, x_e2, x_e1, x_eC, x_aN, x_aC, x_tup, x_lst, x_call, x_oC1, x_oC2, x_call0, x_call01, x_eAnd, x_eAnd1, x_eOr, x_eOr1, x_eNot, x_eNot1, x_eIf, x_eIf1, x_fz_int, x_fr_int, x_fz_bl, x_fr_bl, x_fz_str, x_fr_str, x_fz_ty, x_fr_ty, x_fz_tup, x_fr_tup, x_fz_cst, x_fr_cst, x_fz_lst_false, x_fr_lst_false, x_fz_non, x_fr_non, x_fz_lt, x_fr_lt, x_fL0, x_fL1, x_cF, x_cR1, x_cR2, x_cR3, x_iL, x_iL1, x_iT, x_iT1, x_iS, x_iS1, x_iR1, x_iR11, x_iR2, x_iR21, x_iE, x_iE1, x_iV, x_iV1, x_iZ, x_iZ1, x_for, x_fo0, x_fo1, x_fo2, x_fo3, x_fo4, x_fo5, x_fo6, x_fo7, x_gT, x_gC, x_gC0, x_try, x_try1, x_try2, x_try3, x_try4, x_try5, x_nx1, x_nx2, x_try6, x_try7, x_nx3, x_nx4, x_app, x_app1, x_app2, x_lc, x_lcE, x_lc0, x_lc1, x_lcG, x_w0, x_w1, vMinL4, vMaxL4, vAll3, vAny3, vAll4, vAny4, x_wh1, x_wh2, x_wh0, x_abs, vI_ii, vI_ib, vI_it, vI_il, vI_is, vI_bb, vI_bi, vI_tt, vI_tl, vI_ti, vI_ll, vI_lt, vI_ss, vEqB, vNeB, x_ta, x_ta1, x_ta2, x_ta3, x_ta4, x_ta5, x_is, nc_0, nc_1, nc_2, nc_3, nc_4, nc_5, nc_6, nc_7, nc_8, nc_9, nc_10, nc_11, vMax2, vMin2, vIsN0, vIsN1, vNotN0, vNotN1, vIsN2, vNotN2, x_lo, x_lo1, x_lo2, vAll2, vAny2, x_sl, x_sl1, x_sl2, x_pn, x_ps, x_ps1, x_cutL, x_cutC, vEqS, vNeS, x_fz_obj, x_fr_obj, x_make, x_meth, x_meth2, x_meth3, x_isO, x_isO1, x_cat, x_cat1, x_methZ, x_methZ2, x_methZ3, x_callZ, x_callZ1, x_lend1, x_lend2, x_cl_int, x_cl_bl, x_cl_str, x_cl_non, x_cl_tup, x_cl0, x_cl1, x_cl_lst, x_setIx, x_setIx1, x_setIx2, x_callI, x_callI1, x_callI2, x_callI3, x_take0, x_take1, x_take2, x_put0, x_put1, x_cFI, x_cRI1, x_cRI2, x_outR, x_outR1, x_out1, x_out2, x_par, x_par1, x_sort, x_sort1, x_sort2, x_io2, x_io4, vIsB, x_pop, x_lr, x_lr1, x_clr, x_clr1, x_clrE, x_clrE1, x_pop1, x_pop2, x_ins, x_ins1, x_ins2, x_sk, x_sk1, x_sk2, x_sk3, x_ck, x_ck1, x_lk, x_lk1, x_iK, x_iK1, x_forB, x_fbD, x_fbR, x_fbR2, x_fzE, vInt1, vInt2, x_tupO, x_tupO1, x_tupO2, x_e2Z, x_e2Z1, x_appF, x_appF1, x_appF2, x_appF3, x_setF, x_setF1, x_setF2, x_setF3, x_setFd, x_setFd1, x_makeI, x_makeI1, x_methI, x_methI1, x_methI2, x_mz0, x_mz01, x_mz02, x_mz03, x_m0, x_m01, x_m02, x_m03, x_fz_objt, x_fr_objt, List.all_cons, List.all_nil, Option.isSome_some, Option.map_some, List.getD_cons_zero, List.getD_cons_succ, List.set_cons_zero, List.set_cons_succ, List.map_cons, List.map_nil, List.replicate_zero, List.replicate_succ, List.length_cons, List.length_nil, List.cons_append, List.nil_append, Option.bind_some, if_true, if_false, Bool.false_eq_true, Nat.reduceSub, Nat.reduceAdd, Nat.reduceLeDiff, Nat.reduceLT, vAdd, vSub, vLt, vLe, vGt, vGe, vNeg, vEq, vNe, vEq2, vNe2, vMod, vDiv, vMul, vPow, Int.reduceToNat, vIx0, vIx1, vLenT, vLenC, vLenL, reduceIte, decide_true, decide_false, Bool.not_true, Bool.not_false, beq_self_eq_true, Bool.and_true, Bool.true_and, Bool.and_self, Bool.and_false, Bool.false_and]
  done
theorem wt_pow {hs : List Int} {i : Nat} {k : Int} (hi : i < hs.length) (hw : 0 ≤ hs.getD i 0 ∧ hs.getD i 0 ≤ 16) (h1 : 2 ≤ k) (h2 : k ≤ 6) : f_weight_of [Nk.d (.pow i k), .lst false (hs.map D.int)] = .ok (.int (k * hs.getD i 0)) := by
  have e := ix_int hi false
  have m : gMul (.int k) (.int (hs.getD i 0)) = some (.int (k * hs.getD i 0)) := vMul (mulW 5 6 (by omega) (by omega) (by decide))
  simp (disch := decide) only [f_weight_of, m_weight_of, Nk.d, ix2, in_num, in_unk, in_pow, in_plus, in_minus, in_times, eq_number_number, eq_number_unknown, eq_number_power, eq_unknown_number, eq_unknown_unknown, eq_unknown_power, eq_power_number, eq_power_unknown, eq_power_power, eq_plus_number, eq_plus_unknown, eq_plus_power, eq_minus_number, eq_minus_unknown, eq_minus_power, eq_times_number, eq_times_unknown, eq_times_power, e, m, x_seq, x_seq1, x_seq2, x_seq3, x_seq4, x_seq5, x_seq6, x_nil, x_if, x_if1, x_if2, x_if3, x_ret, x_ret1, x_ret2, x_ret3, x_retN, x_asg, x_asg1, x_asg2, x_asg3, x_asg4, x_asg5, x_gN, x_drop, x_drop1, x_drop2, x_bk, x_ct, x_raise, x_tZ, x_tZ1, x_tZ2, x_tE, x_tE1, x_tE2, x_tE3, x_tAnd, x_tAnd1, x_tAnd2, x_tAnd3, x_tOr, x_tOr1, x_tOr2, x_tOr3, x_tNot, x_tNot1, x_tNot2, x_tNot3, x_tTrue, x_z2, x_z21, x_z1, x_z11, x_zC, x_zC1, x_za, x_za1, x_za0, x_zV, x_zK, x_ch, x_ch1, x_ch2, x_eZ, x_eZ1, x_eZ2, x_eV, x_eV1, x_eM, x_eM1, x_b1, x_b2, x_b3, x_s1, x_s2, x_s3, x_oO, x_oO2, x_e2, x_e1, x_eC, x_aN, x_aC, x_tup, x_lst, x_call, x_oC1, x_oC2, x_call0, x_call01, x_eAnd, x_eAnd1, x_eOr, x_eOr1, x_eNot, x_eNot1, x_eIf, x_eIf1, x_fz_int, x_fr_int, x_fz_bl, x_fr_bl, x_fz_str, x_fr_str, x_fz_ty, x_fr_ty, x_fz_tup, x_fr_tup, x_fz_cst, x_fr_cst, x_fz_lst_false, x_fr_lst_false, x_fz_non, x_fr_non, x_fz_lt, x_fr_lt, x_fL0, x_fL1, x_cF, x_cR1, x_cR2, x_cR3, x_iL, x_iL1, x_iT, x_iT1, x_iS, x_iS1, x_iR1, x_iR11, x_iR2, x_iR21, x_iE, x_iE1, x_iV, x_iV1, x_iZ, x_iZ1, x_for, x_fo0, x_fo1, x_fo2, x_fo3, x_fo4, x_fo5, x_fo6, x_fo7, x_gT, x_gC, x_gC0, x_try, x_try1, x_try2, x_try3, x_try4, x_try5, x_nx1, x_nx2, x_try6, x_try7, x_nx3, x_nx4, x_app, x_app1, x_app2, x_lc, x_lcE, x_lc0, x_lc1, x_lcG, x_w0, x_w1, vMinL4, vMaxL4, vAll3, vAny3, vAll4, vAny4, x_wh1, x_wh2, x_wh0, x_abs, vI_ii, vI_ib, vI_it, vI_il, vI_is, vI_bb, vI_bi, vI_tt, vI_tl, vI_ti, vI_ll, vI_lt, vI_ss, vEqB, vNeB, x_ta, x_ta1, x_ta2, x_ta3, x_ta4, x_ta5, x_is, nc_0, nc_1, nc_2, nc_3, nc_4, nc_5, nc_6, nc_7, nc_8, nc_9, nc_10, nc_11, vMax2, vMin2, vIsN0, vIsN1, vNotN0, vNotN1, vIsN2, vNotN2, x_lo, x_lo1, x_lo2, vAll2, vAny2, x_sl, x_sl1, x_sl2, x_pn, x_ps, x_ps1, x_cutL, x_cutC, vEqS, vNeS, x_fz_obj, x_fr_obj, x_make, x_meth, x_meth2, x_meth3, x_isO, x_isO1, x_cat, x_cat1, x_methZ, x_methZ2, x_methZ3, x_callZ, x_callZ1, x_lend1, x_lend2, x_cl_int, x_cl_bl, x_cl_str, x_cl_non, x_cl_tup, x_cl0, x_cl1, x_cl_lst, x_setIx, x_setIx1, x_setIx2, x_callI, x_callI1, x_callI2, x_callI3, x_take0, x_take1, x_take2, x_put0, x_put1, x_cFI, x_cRI1, x_cRI2, x_outR, x_outR1, x_out1, x_out2, x_par, x_par1, x_sort, x_sort1, x_sort2, x_io2, x_io4, vIsB, x_pop, x_lr, x_lr1, x_clr, x_clr1, x_clrE, x_clrE1, x_pop1, x_pop2, x_ins, x_ins1, x_ins2, x_sk, x_sk1, x_sk2, x_sk3, x_ck, x_ck1, x_lk, x_lk1, x_iK, x_iK1, x_forB, x_fbD, x_fbR, x_fbR2, x_fzE, vInt1, vInt2, x_tupO, x_tupO1, x_tupO2, x_e2Z, x_e2Z1, x_appF, x_appF1, x_appF2, x_appF3, x_setF, x_setF1, x_setF2, x_setF3, x_setFd, x_setFd1, x_makeI, x_makeI1, x_methI, x_methI1, x_methI2, x_mz0, x_mz01, x_mz02, x_mz03, x_m0, x_m01, x_m02, x_m03, x_fz_objt, x_fr_objt, List.all_cons, List.all_nil, Option.isSome_some, Option.map_some, List.getD_cons_zero, List.getD_cons_succ, List.set_cons_zero, List.set_cons_succ, List.map_cons, List.map_nil, List.replicate_zero, List.replicate_succ, List.length_cons, List.length_nil, List.cons_append, List.nil_append, Option.bind_some, if_true, if_false, Bool.false_eq_true, Nat.reduceSub, Nat.reduceAdd, Nat.reduceLeDiff, Nat.reduceLT, vAdd, vSub, vLt, vLe, vGt, vGe, vNeg, vEq, vNe, vEq2, vNe2, vMod, vDiv, vMul, vPow, Int.reduceToNat, vIx0, vIx1, vLenT, vLenC, vLenL, reduceIte, decide_true, decide_false, Bool.not_true, Bool.not_false, beq_self_eq_true, Bool.and_true, Bool.true_and, Bool.and_self, Bool.and_false, Bool.false_and]
  done
theorem wt_plus {hs : List Int} {i j : Nat} (hi : i < hs.length) (hj : j < hs.length) : f_weight_of [Nk.d (.two "plus" i j), .lst false (hs.map D.int)] = .ok (.int (hs.getD i 0 + hs.getD j 0)) := by
  have e := ix_int hi false
  have e2 := ix_int hj false
  simp (disch := decide) only [f_weight_of, m_weight_of, Nk.d, ix2, in_num, in_unk, in_pow, in_plus, in_minus, in_times, eq_number_number, eq_number_unknown, eq_number_power, eq_unknown_number, eq_unknown_unknown, eq_unknown_power, eq_power_number, eq_power_unknown, eq_power_power, eq_plus_number, eq_plus_unknown, eq_plus_power, eq_minus_number, eq_minus_unknown, eq_minus_power, eq_times_number, eq_times_unknown, eq_times_power, e, e2, x_seq, x_seq1, x_seq2, x_seq3, x_seq4, x_seq5, x_seq6, x_nil, x_if, x_if1, x_if2, x_if3, x_ret, x_ret1, x_ret2, x_ret3, x_retN, x_asg, x_asg1, x_asg2, x_asg3, x_asg4, x_asg5, x_gN, x_drop, x_drop1, x_drop2, x_bk, x_ct, x_raise, x_tZ, x_tZ1, x_tZ2, x_tE, x_tE1, x_tE2, x_tE3, x_tAnd, x_tAnd1, x_tAnd2, x_tAnd3, x_tOr, x_tOr1, x_tOr2, x_tOr3, x_tNot, x_tNot1, x_tNot2, x_tNot3, x_tTrue, x_z2, x_z21, x_z1, x_z11, x_zC, x_zC1, x_za, x_za1, x_za0, x_zV, x_zK, x_ch, x_ch1, x_ch2, x_eZ, x_eZ1, x_eZ2, x_eV, x_eV1, x_eM, x_eM1, x_b1, x_b2, x_b3, x_s1, x_s2, x_s3, x_oO, x_oO2, x_e2, x_e1, x_eC, x_aN, x_aC, x_tup, x_lst, x_call, x_oC1, x_oC2, x_call0, x_call01, x_eAnd, x_eAnd1, x_eOr, x_eOr1, x_eNot, x_eNot1, x_eIf, x_eIf1, x_fz_int, x_fr_int, x_fz_bl, x_fr_bl, x_fz_str, x_fr_str, x_fz_ty, x_fr_ty, x_fz_tup, x_fr_tup, x_fz_cst, x_fr_cst, x_fz_lst_false, x_fr_lst_false, x_fz_non, x_fr_non, x_fz_lt, x_fr_lt, x_fL0, x_fL1, x_cF, x_cR1, x_cR2, x_cR3, x_iL, x_iL1, x_iT, x_iT1, x_iS, x_iS1, x_iR1, x_iR11, x_iR2, x_iR21, x_iE, x_iE1, x_iV, x_iV1, x_iZ, x_iZ1, x_for, x_fo0, x_fo1, x_fo2, x_fo3, x_fo4, x_fo5, x_fo6, x_fo7, x_gT, x_gC, x_gC0, x_try, x_try1, x_try2, x_try3, x_try4, x_try5, x_nx1, x_nx2, x_try6, x_try7, x_nx3, x_nx4, x_app, x_app1, x_app2, x_lc, x_lcE, x_lc0, x_lc1, x_lcG, x_w0, x_w1, vMinL4, vMaxL4, vAll3, vAny3, vAll4, vAny4, x_wh1, x_wh2, x_wh0, x_abs, vI_ii, vI_ib, vI_it, vI_il, vI_is, vI_bb, vI_bi, vI_tt, vI_tl, vI_ti, vI_ll, vI_lt, vI_ss, vEqB, vNeB, x_ta, x_ta1, x_ta2, x_ta3, x_ta4, x_ta5, x_is, nc_0, nc_1, nc_2, nc_3, nc_4, nc_5, nc_6, nc_7, nc_8, nc_9, nc_10, nc_11, vMax2, vMin2, vIsN0, vIsN1, vNotN0, vNotN1, vIsN2, vNotN2, x_lo, x_lo1, x_lo2, vAll2, vAny2, x_sl, x_sl1, x_sl2, x_pn, x_ps, x_ps1, x_cutL, x_cutC, vEqS, vNeS, x_fz_obj, x_fr_obj, x_make, x_meth, x_meth2, x_meth3, x_isO, x_isO1, x_cat, x_cat1, x_methZ, x_methZ2, x_methZ3, x_callZ, x_callZ1, x_lend1, x_lend2, x_cl_int, x_cl_bl, x_cl_str, x_cl_non, x_cl_tup, x_cl0, x_cl1, x_cl_lst, x_setIx, x_setIx1, x_setIx2, x_callI, x_callI1, x_callI2, x_callI3, x_take0, x_take1, x_take2, x_put0, x_put1, x_cFI, x_cRI1, x_cRI2, x_outR, x_outR1, x_out1, x_out2, x_par, x_par1, x_sort, x_sort1, x_sort2, x_io2, x_io4, vIsB, x_pop, x_lr, x_lr1, x_clr, x_clr1, x_clrE, x_clrE1, x_pop1, x_pop2, x_ins, x_ins1, x_ins2, x_sk, x_sk1, x_sk2, x_sk3, x_ck, x_ck1, x_lk, x_lk1, x_iK, x_iK1, x_forB, x_fbD, x_fbR, x_fbR2, x_fzE, vInt1, vInt2, x_tupO, x_tupO1, x_tupO2, x_e2Z, x_e2Z1, x_appF, x_appF1, x_appF2, x_appF3, x_setF, x_setF1, x_setF2, x_setF3, x_setFd, x_setFd1, x_makeI, x_makeI1, x_methI, x_methI1, x_methI2, x_mz0, x_mz01, x_mz02, x_mz03, x_m0, x_m01, x_m02, x_m03, x_fz_objt, x_fr_objt, List.all_cons, List.all_nil, Option.isSome_some, Option.map_some, List.getD_cons_zero, List.getD_cons_succ, List.set_cons_zero, List.set_cons_succ, List.map_cons, List.map_nil, List.replicate_zero, List.replicate_succ, List.length_cons, List.length_nil, List.cons_append, List.nil_append, Option.bind_some, if_true, if_false, Bool.false_eq_true, Nat.reduceSub, Nat.reduceAdd, Nat.reduceLeDiff, Nat.reduceLT, vAdd, vSub, vLt, vLe, vGt, vGe, vNeg, vEq, vNe, vEq2, vNe2, vMod, vDiv, vMul, vPow, Int.reduceToNat, vIx0, vIx1, vLenT, vLenC, vLenL, reduceIte, decide_true, decide_false, Bool.not_true, Bool.not_false, beq_self_eq_true, Bool.and_true, Bool.true_and, Bool.and_self, Bool.and_false, Bool.false_and]
  done
theorem wt_minus {hs : List Int} {i j : Nat} (hi : i < hs.length) (hj : j < hs.length) : f_weight_of [Nk.d (.two "minus" i j), .lst false (hs.map D.int)] = .ok (.int (hs.getD i 0 + hs.getD j 0)) := by
  have e := ix_int hi false
  have e2 := ix_int hj false
  simp (disch := decide) only [f_weight_of, m_weight_of, Nk.d, ix2, in_num, in_unk, in_pow, in_plus, in_minus, in_times, eq_number_number, eq_number_unknown, eq_number_power, eq_unknown_number, eq_unknown_unknown, eq_unknown_power, eq_power_number, eq_power_unknown, eq_power_power, eq_plus_number, eq_plus_unknown, eq_plus_power, eq_minus_number, eq_minus_unknown, eq_minus_power, eq_times_number, eq_times_unknown, eq_times_power, e, e2, x_seq, x_seq1, x_seq2, x_seq3, x_seq4, x_seq5, x_seq6, x_nil, x_if, x_if1, x_if2, x_if3, x_ret, x_ret1, x_ret2, x_ret3, x_retN, x_asg, x_asg1, x_asg2, x_asg3, x_asg4, x_asg5, x_gN, x_drop, x_drop1, x_drop2, x_bk, x_ct, x_raise, x_tZ, x_tZ1, x_tZ2, x_tE, x_tE1, x_tE2, x_tE3, x_tAnd, x_tAnd1, x_tAnd2, x_tAnd3, x_tOr, x_tOr1, x_tOr2, x_tOr3, x_tNot, x_tNot1, x_tNot2, x_tNot3, x_tTrue, x_z2, x_z21, x_z1, x_z11, x_zC, x_zC1, x_za, x_za1, x_za0, x_zV, x_zK, x_ch, x_ch1, x_ch2, x_eZ, x_eZ1, x_eZ2, x_eV, x_eV1, x_eM, x_eM1, x_b1, x_b2, x_b3, x_s1, x_s2, x_s3, x_oO, x_oO2, x_e2, x_e1, x_eC, x_aN, x_aC, x_tup, x_lst, x_call, x_oC1, x_oC2, x_call0, x_call01, x_eAnd, x_eAnd1, x_eOr, x_eOr1, x_eNot, x_eNot1, x_eIf, x_eIf1, x_fz_int, x_fr_int, x_fz_bl, x_fr_bl, x_fz_str, x_fr_str, x_fz_ty, x_fr_ty, x_fz_tup, x_fr_tup, x_fz_cst, x_fr_cst, x_fz_lst_false, x_fr_lst_false, x_fz_non, x_fr_non, x_fz_lt, x_fr_lt, x_fL0, x_fL1, x_cF, x_cR1, x_cR2, x_cR3, x_iL, x_iL1, x_iT, x_iT1, x_iS, x_iS1, x_iR1, x_iR11, x_iR2, x_iR21, x_iE, x_iE1, x_iV, x_iV1, x_iZ, x_iZ1, x_for, x_fo0, x_fo1, x_fo2, x_fo3, x_fo4, x_fo5, x_fo6, x_fo7, x_gT, x_gC, x_gC0, x_try, x_try1, x_try2, x_try3, x_try4, x_try5, x_nx1, x_nx2, x_try6, x_try7, x_nx3, x_nx4, x_app, x_app1, x_app2, x_lc, x_lcE, x_lc0, x_lc1, x_lcG, x_w0, x_w1, vMinL4, vMaxL4, vAll3, vAny3, vAll4, vAny4, x_wh1, x_wh2, x_wh0, x_abs, vI_ii, vI_ib, vI_it, vI_il, vI_is, vI_bb, vI_bi, vI_tt, vI_tl, vI_ti, vI_ll, vI_lt, vI_ss, vEqB, vNeB, x_ta, x_ta1, x_ta2, x_ta3, x_ta4, x_ta5, x_is, nc_0, nc_1, nc_2, nc_3, nc_4, nc_5, nc_6, nc_7, nc_8, nc_9, nc_10, nc_11, vMax2, vMin2, vIsN0, vIsN1, vNotN0, vNotN1, vIsN2, vNotN2, x_lo, x_lo1, x_lo2, vAll2, vAny2, x_sl, x_sl1, x_sl2, x_pn, x_ps, x_ps1, x_cutL, x_cutC, vEqS, vNeS, x_fz_obj, x_fr_obj, x_make, x_meth, x_meth2, x_meth3, x_isO, x_isO1, x_cat, x_cat1, x_methZ, x_methZ2, x_methZ3, x_callZ, x_callZ1, x_lend1, x_lend2, x_cl_int, x_cl_bl, x_cl_str, x_cl_non, x_cl_tup, x_cl0, x_cl1, x_cl_lst, x_setIx, x_setIx1, x_setIx2, x_callI, x_callI1, x_callI2, x_callI3, x_take0, x_take1, x_take2, x_put0, x_put1, x_cFI, x_cRI1, x_cRI2, x_outR, x_outR1, x_out1, x_out2, x_par, x_par1, x_sort, x_sort1, x_sort2, x_io2, x_io4, vIsB, x_pop, x_lr, x_lr1, x_clr, x_clr1, x_clrE, x_clrE1, x_pop1, x_pop2, x_ins, x_ins1, x_ins2, x_sk, x_sk1, x_sk2, x_sk3, x_ck, x_ck1, x_lk, x_lk1, x_iK, x_iK1, x_forB, x_fbD, x_fbR, x_fbR2, x_fzE, vInt1, vInt2, x_tupO, x_tupO1, x_tupO2, x_e2Z, x_e2Z1, x_appF, x_appF1, x_appF2, x_appF3, x_setF, x_setF1, x_setF2, x_setF3, x_setFd, x_setFd1, x_makeI, x_makeI1, x_methI, x_methI1, x_methI2, x_mz0, x_mz01, x_mz02, x_mz03, x_m0, x_m01, x_m02, x_m03, x_fz_objt, x_fr_objt, List.all_cons, List.all_nil, Option.isSome_some, Option.map_some, List.getD_cons_zero, List.getD_cons_succ, List.set_cons_zero, List.set_cons_succ, List.map_cons, List.map_nil, List.replicate_zero, List.replicate_succ, List.length_cons, List.length_nil, List.cons_append, List.nil_append, Option.bind_some, if_true, if_false, Bool.false_eq_true, Nat.reduceSub, Nat.reduceAdd, Nat.reduceLeDiff, Nat.reduceLT, vAdd, vSub, vLt, vLe, vGt, vGe, vNeg, vEq, vNe, vEq2, vNe2, vMod, vDiv, vMul, vPow, Int.reduceToNat, vIx0, vIx1, vLenT, vLenC, vLenL, reduceIte, decide_true, decide_false, Bool.not_true, Bool.not_false, beq_self_eq_true, Bool.and_true, Bool.true_and, Bool.and_self, Bool.and_false, Bool.false_and]
  done
theorem wt_times {hs : List Int} {i j : Nat} (hi : i < hs.length) (hj : j < hs.length) : f_weight_of [Nk.d (.two "times" i j), .lst false (hs.map D.int)] = .ok (.int (hs.getD i 0 + hs.getD j 0)) := by
  have e := ix_int hi false
  have e2 := ix_int hj false
  simp (disch := decide) only [f_weight_of, m_weight_of, Nk.d, ix2, in_num, in_unk, in_pow, in_plus, in_minus, in_times, eq_number_number, eq_number_unknown, eq_number_power, eq_unknown_number, eq_unknown_unknown, eq_unknown_power, eq_power_number, eq_power_unknown, eq_power_power, eq_plus_number, eq_plus_unknown, eq_plus_power, eq_minus_number, eq_minus_unknown, eq_minus_power, eq_times_number, eq_times_unknown, eq_times_power, e, e2, x_seq, x_seq1, x_seq2, x_seq3, x_seq4, x_seq5, x_seq6, x_nil, x_if, x_if1, x_if2, x_if3, x_ret, x_ret1, x_ret2, x_ret3, x_retN, x_asg, x_asg1, x_asg2, x_asg3, x_asg4, x_asg5, x_gN, x_drop, x_drop1, x_drop2, x_bk, x_ct, x_raise, x_tZ, x_tZ1, x_tZ2, x_tE, x_tE1, x_tE2, x_tE3, x_tAnd, x_tAnd1, x_tAnd2, x_tAnd3, x_tOr, x_tOr1, x_tOr2, x_tOr3, x_tNot, x_tNot1, x_tNot2, x_tNot3, x_tTrue, x_z2, x_z21, x_z1, x_z11, x_zC, x_zC1, x_za, x_za1, x_za0, x_zV, x_zK, x_ch, x_ch1, x_ch2, x_eZ, x_eZ1, x_eZ2, x_eV, x_eV1, x_eM, x_eM1, x_b1, x_b2, x_b3, x_s1, x_s2, x_s3, x_oO, x_oO2, x_e2, x_e1, x_eC, x_aN, x_aC, x_tup, x_lst, x_call, x_oC1, x_oC2, x_call0, x_call01, x_eAnd, x_eAnd1, x_eOr, x_eOr1, x_eNot, x_eNot1, x_eIf, x_eIf1, x_fz_int, x_fr_int, x_fz_bl, x_fr_bl, x_fz_str, x_fr_str, x_fz_ty, x_fr_ty, x_fz_tup, x_fr_tup, x_fz_cst, x_fr_cst, x_fz_lst_false, x_fr_lst_false, x_fz_non, x_fr_non, x_fz_lt, x_fr_lt, x_fL0, x_fL1, x_cF, x_cR1, x_cR2, x_cR3, x_iL, x_iL1, x_iT, x_iT1, x_iS, x_iS1, x_iR1, x_iR11, x_iR2, x_iR21, x_iE, x_iE1, x_iV, x_iV1, x_iZ, x_iZ1, x_for, x_fo0, x_fo1, x_fo2, x_fo3, x_fo4, x_fo5, x_fo6, x_fo7, x_gT, x_gC, x_gC0, x_try, x_try1, x_try2, x_try3, x_try4, x_try5, x_nx1, x_nx2, x_try6, x_try7, x_nx3, x_nx4, x_app, x_app1, x_app2, x_lc, x_lcE, x_lc0, x_lc1, x_lcG, x_w0, x_w1, vMinL4, vMaxL4, vAll3, vAny3, vAll4, vAny4, x_wh1, x_wh2, x_wh0, x_abs, vI_ii, vI_ib, vI_it, vI_il, vI_is, vI_bb, vI_bi, vI_tt, vI_tl, vI_ti, vI_ll, vI_lt, vI_ss, vEqB, vNeB, x_ta, x_ta1, x_ta2, x_ta3, x_ta4, x_ta5, x_is, nc_0, nc_1, nc_2, nc_3, nc_4, nc_5, nc_6, nc_7, nc_8, nc_9, nc_10, nc_11, vMax2, vMin2, vIsN0, vIsN1, vNotN0, vNotN1, vIsN2, vNotN2, x_lo, x_lo1, x_lo2, vAll2, vAny2, x_sl, x_sl1, x_sl2, x_pn, x_ps, x_ps1, x_cutL, x_cutC, vEqS, vNeS, x_fz_obj, x_fr_obj, x_make, x_meth, x_meth2, x_meth3, x_isO, x_isO1, x_cat, x_cat1, x_methZ, x_methZ2, x_methZ3, x_callZ, x_callZ1, x_lend1, x_lend2, x_cl_int, x_cl_bl, x_cl_str, x_cl_non, x_cl_tup, x_cl0, x_cl1, x_cl_lst, x_setIx, x_setIx1, x_setIx2, x_callI, x_callI1, x_callI2, x_callI3, x_take0, x_take1, x_take2, x_put0, x_put1, x_cFI, x_cRI1, x_cRI2, x_outR, x_outR1, x_out1, x_out2, x_par, x_par1, x_sort, x_sort1, x_sort2, x_io2, x_io4, vIsB, x_pop, x_lr, x_lr1, x_clr, x_clr1, x_clrE, x_clrE1, x_pop1, x_pop2, x_ins, x_ins1, x_ins2, x_sk, x_sk1, x_sk2, x_sk3, x_ck, x_ck1, x_lk, x_lk1, x_iK, x_iK1, x_forB, x_fbD, x_fbR, x_fbR2, x_fzE, vInt1, vInt2, x_tupO, x_tupO1, x_tupO2, x_e2Z, x_e2Z1, x_appF, x_appF1, x_appF2, x_appF3, x_setF, x_setF1, x_setF2, x_setF3, x_setFd, x_setFd1, x_makeI, x_makeI1, x_methI, x_methI1, x_methI2, x_mz0, x_mz01, x_mz02, x_mz03, x_m0, x_m01, x_m02, x_m03, x_fz_objt, x_fr_objt, List.all_cons, List.all_nil, Option.isSome_some, Option.map_some, List.getD_cons_zero, List.getD_cons_succ, List.set_cons_zero, List.set_cons_succ, List.map_cons, List.map_nil, List.replicate_zero, List.replicate_succ, List.length_cons, List.length_nil, List.cons_append, List.nil_append, Option.bind_some, if_true, if_false, Bool.false_eq_true, Nat.reduceSub, Nat.reduceAdd, Nat.reduceLeDiff, Nat.reduceLT, vAdd, vSub, vLt, vLe, vGt, vGe, vNeg, vEq, vNe, vEq2, vNe2, vMod, vDiv, vMul, vPow, Int.reduceToNat, vIx0, vIx1, vLenT, vLenC, vLenL, reduceIte, decide_true, decide_false, Bool.not_true, Bool.not_false, beq_self_eq_true, Bool.and_true, Bool.true_and, Bool.and_self, Bool.and_false, Bool.false_and]
  done
theorem lw_num {hs : List Int} {t b : Int}  : f__law_weight [Nk.d (.num t b), .lst false (hs.map D.int)] = .ok (.int (1)) := by
  simp (disch := decide) only [f__law_weight, m__law_weight, Nk.d, ix2, in_num, in_unk, in_pow, in_plus, in_minus, in_times, eq_number_number, eq_number_unknown, eq_number_power, eq_unknown_number, eq_unknown_unknown, eq_unknown_power, eq_power_number, eq_power_unknown, eq_power_power, eq_plus_number, eq_plus_unknown, eq_plus_power, eq_minus_number, eq_minus_unknown, eq_minus_power, eq_times_number, eq_times_unknown, eq_times_power, x_seq, x_seq1, x_seq2, x_seq3, x_seq4, x_seq5, x_seq6, x_nil, x_if, x_if1, x_if2, x_if3, x_ret, x_ret1, x_ret2, x_ret3, x_retN, x_asg, x_asg1, x_asg2, x_asg3, x_asg4, x_asg5, x_gN, x_drop, x_drop1, x_drop2, x_bk, x_ct, x_raise, x_tZ, x_tZ1, x_tZ2, x_tE, x_tE1, x_tE2, x_tE3, x_tAnd, x_tAnd1, x_tAnd2, x_tAnd3, x_tOr, x_tOr1, x_tOr2, x_tOr3, x_tNot, x_tNot1, x_tNot2, x_tNot3, x_tTrue, x_z2, x_z21, x_z1, x_z11, x_zC, x_zC1, x_za, x_za1, x_za0, x_zV, x_zK, x_ch, x_ch1, x_ch2, x_eZ, x_eZ1, x_eZ2, x_eV, x_eV1, x_eM, x_eM1, x_b1, x_b2, x_b3, x_s1, x_s2, x_s3, x_oO, x_oO2, x_e2, x_e1, x_eC, x_aN, x_aC, x_tup, x_lst, x_call, x_oC1, x_oC2, x_call0, x_call01, x_eAnd, x_eAnd1, x_eOr, x_eOr1, x_eNot, x_eNot1, x_eIf, x_eIf1, x_fz_int, x_fr_int, x_fz_bl, x_fr_bl, x_fz_str, x_fr_str, x_fz_ty, x_fr_ty, x_fz_tup, x_fr_tup, x_fz_cst, x_fr_cst, x_fz_lst_false, x_fr_lst_false, x_fz_non, x_fr_non, x_fz_lt, x_fr_lt, x_fL0, x_fL1, x_cF, x_cR1, x_cR2, x_cR3, x_iL, x_iL1, x_iT, x_iT1, x_iS, x_iS1, x_iR1, x_iR11, x_iR2, x_iR21, x_iE, x_iE1, x_iV, x_iV1, x_iZ, x_iZ1, x_for, x_fo0, x_fo1, x_fo2, x_fo3, x_fo4, x_fo5, x_fo6, x_fo7, x_gT, x_gC, x_gC0, x_try, x_try1, x_try2, x_try3, x_try4, x_try5, x_nx1, x_nx2, x_try6, x_try7, x_nx3, x_nx4, x_app, x_app1, x_app2, x_lc, x_lcE, x_lc0, x_lc1, x_lcG, x_w0, x_w1, vMinL4, vMaxL4, vAll3, vAny3, vAll4, vAny4, x_wh1, x_wh2, x_wh0, x_abs, vI_ii, vI_ib, vI_it, vI_il, vI_is, vI_bb, vI_bi, vI_tt, vI_tl, vI_ti, vI_ll, vI_lt, vI_ss, vEqB, vNeB, x_ta, x_ta1, x_ta2, x_ta3, x_ta4, x_ta5, x_is, nc_0, nc_1, nc_2, nc_3, nc_4, nc_5, nc_6, nc_7, nc_8, nc_9, nc_10, nc_11, vMax2, vMin2, vIsN0, vIsN1, vNotN0, vNotN1, vIsN2, vNotN2, x_lo, x_lo1, x_lo2, vAll2, vAny2, x_sl, x_sl1, x_sl2, x_pn, x_ps, x_ps1, x_cutL, x_cutC, vEqS, vNeS, x_fz_obj, x_fr_obj, x_make, x_meth, x_meth2, x_meth3, x_isO, x_isO1, x_cat, x_cat1, x_methZ, x_methZ2, x_methZ3, x_callZ, x_callZ1, x_lend1, x_lend2, x_cl_int, x_cl_bl, x_cl_str, x_cl_non, x_cl_tup, x_cl0, x_cl1, x_cl_lst, x_setIx, x_setIx1, x_setIx2, x_callI, x_callI1, x_callI2, x_callI3, x_take0, x_take1, x_take2, x_put0, x_put1, x_cFI, x_cRI1, x_cRI2, x_outR, x_outR1, x_out1, x_out2, x_par, x_par1, x_sort, x_sort1, x_sort2, x_io2, x_io4, vIsB, x_pop, x_lr, x_lr1, x_clr, x_clr1, x_clrE, x_clrE1, x_pop1, x_pop2, x_ins, x_ins1, x_ins2, x_sk, x_sk1, x_sk2, x_sk3, x_ck, x_ck1, x_lk, x_lk1, x_iK, x_iK1, x_forB, x_fbD, x_fbR, x_fbR2, x_fzE, vInt1, vInt2, x_tupO, x_tupO1, x_tupO2, x_e2Z, x_e2Z1, x_appF, x_appF1, x_appF2, x_appF3, x_setF, x_setF1, x_setF2, x_setF3, x_setFd, x_setFd1, x_makeI, x_makeI1, x_methI, x_methI1, x_methI2, x_mz0, x_mz01, x_mz02, x_mz03, x_m0, x_m01, x_m02, x_m03, x_fz_objt, x_fr_objt, List.all_cons, List.all_nil, Option.isSome_some, Option.map_some, List.getD_cons_zero, List.getD_cons_succ, List.set_cons_zero, List.set_cons_succ, List.map_cons, List.map_nil, List.replicate_zero, List.replicate_succ, List.length_cons, List.length_nil, List.cons_append, List.nil_append, Option.bind_some, if_true, if_false, Bool.false_eq_true, Nat.reduceSub, Nat.reduceAdd, Nat.reduceLeDiff, Nat.reduceLT, vAdd, vSub, vLt, vLe, vGt, vGe, vNeg, vEq, vNe, vEq2, vNe2, vMod, vDiv, vMul, vPow, Int.reduceToNat, vIx0, vIx1, vLenT, vLenC, vLenL, reduceIte, decide_true, decide_false, Bool.not_true, Bool.not_false, beq_self_eq_true, Bool.and_true, Bool.true_and, Bool.and_self, Bool.and_false, Bool.false_and]
  done
theorem lw_unk {hs : List Int} {k : Int}  : f__law_weight [Nk.d (.unk k), .lst false (hs.map D.int)] = .ok (.int (1)) := by
  simp (disch := decide) only [f__law_weight, m__law_weight, Nk.d, ix2, in_num, in_unk, in_pow, in_plus, in_minus, in_times, eq_number_number, eq_number_unknown, eq_number_power, eq_unknown_number, eq_unknown_unknown, eq_unknown_power, eq_power_number, eq_power_unknown, eq_power_power, eq_plus_number, eq_plus_unknown, eq_plus_power, eq_minus_number, eq_minus_unknown, eq_minus_power, eq_times_number, eq_times_unknown, eq_times_power, x_seq, x_seq1, x_seq2, x_seq3, x_seq4, x_seq5, x_seq6, x_nil, x_if, x_if1, x_if2, x_if3, x_ret, x_ret1, x_ret2, x_ret3, x_retN, x_asg, x_asg1, x_asg2, x_asg3, x_asg4, x_asg5, x_gN, x_drop, x_drop1, x_drop2, x_bk, x_ct, x_raise, x_tZ, x_tZ1, x_tZ2, x_tE, x_tE1, x_tE2, x_tE3, x_tAnd, x_tAnd1, x_tAnd2, x_tAnd3, x_tOr, x_tOr1, x_tOr2, x_tOr3, x_tNot, x_tNot1, x_tNot2, x_tNot3, x_tTrue, x_z2, x_z21, x_z1, x_z11, x_zC, x_zC1, x_za, x_za1, x_za0, x_zV, x_zK, x_ch, x_ch1, x_ch2, x_eZ, x_eZ1, x_eZ2, x_eV, x_eV1, x_eM, x_eM1, x_b1, x_b2, x_b3, x_s1, x_s2, x_s3, x_oO, x_oO2, x_e2, x_e1, x_eC, x_aN, x_aC, x_tup, x_lst, x_call, x_oC1, x_oC2, x_call0, x_call01, x_eAnd, x_eAnd1, x_eOr, x_eOr1, x_eNot, x_eNot1, x_eIf, x_eIf1, x_fz_int, x_fr_int, x_fz_bl, x_fr_bl, x_fz_str, x_fr_str, x_fz_ty, x_fr_ty, x_fz_tup, x_fr_tup, x_fz_cst, x_fr_cst, x_fz_lst_false, x_fr_lst_false, x_fz_non, x_fr_non, x_fz_lt, x_fr_lt, x_fL0, x_fL1, x_cF, x_cR1, x_cR2, x_cR3, x_iL, x_iL1, x_iT, x_iT1, x_iS, x_iS1, x_iR1, x_iR11, x_iR2, x_iR21, x_iE, x_iE1, x_iV, x_iV1, x_iZ, x_iZ1, x_for, x_fo0, x_fo1, x_fo2, x_fo3, x_fo4, x_fo5, x_fo6, x_fo7, x_gT, x_gC, x_gC0, x_try, x_try1, x_try2, x_try3, x_try4, x_try5, x_nx1, x_nx2, x_try6, x_try7, x_nx3, x_nx4, x_app, x_app1, x_app2, x_lc, x_lcE, x_lc0, x_lc1, x_lcG, x_w0, x_w1, vMinL4, vMaxL4, vAll3, vAny3, vAll4, vAny4, x_wh1, x_wh2, x_wh0, x_abs, vI_ii, vI_ib, vI_it, vI_il, vI_is, vI_bb, vI_bi, vI_tt, vI_tl, vI_ti, vI_ll, vI_lt, vI_ss, vEqB, vNeB, x_ta, x_ta1, x_ta2, x_ta3, x_ta4, x_ta5, x_is, nc_0, nc_1, nc_2, nc_3, nc_4, nc_5, nc_6, nc_7, nc_8, nc_9, nc_10, nc_11, vMax2, vMin2, vIsN0, vIsN1, vNotN0, vNotN1, vIsN2, vNotN2, x_lo, x_lo1, x_lo2, vAll2, vAny2, x_sl, x_sl1, x_sl2, x_pn, x_ps, x_ps1, x_cutL, x_cutC, vEqS, vNeS, x_fz_obj, x_fr_obj, x_make, x_meth, x_meth2, x_meth3, x_isO, x_isO1, x_cat, x_cat1, x_methZ, x_methZ2, x_methZ3, x_callZ, x_callZ1, x_lend1, x_lend2, x_cl_int, x_cl_bl, x_cl_str, x_cl_non, x_cl_tup, x_cl0, x_cl1, x_cl_lst, x_setIx, x_setIx1, x_setIx2, x_callI, x_callI1, x_callI2, x_callI3, x_take0, x_take1, x_take2, x_put0, x_put1, x_cFI, x_cRI1, x_cRI2, x_outR, x_outR1, x_out1, x_out2, x_par, x_par1, x_sort, x_sort1, x_sort2, x_io2, x_io4, vIsB, x_pop, x_lr, x_lr1, x_clr, x_clr1, x_clrE, x_clrE1, x_pop1, x_pop2, x_ins, x_ins1, x_ins2, x_sk, x_sk1, x_sk2, x_sk3, x_ck, x_ck1, x_lk, x_lk1, x_iK, x_iK1, x_forB, x_fbD, x_fbR, x_fbR2, x_fzE, vInt1, vInt2, x_tupO, x_tupO1, x_tupO2, x_e2Z, x_e2Z1, x_appF, x_appF1, x_appF2, x_appF3, x_setF, x_setF1, x_setF2, x_setF3, x_setFd, x_setFd1, x_makeI, x_makeI1, x_methI, x_methI1, x_methI2, x_mz0, x_mz01, x_mz02, x_mz03, x_m0, x_m01, x_m02, x_m03, x_fz_objt, x_fr_objt, List.all_cons, List.all_nil, Option.isSome_some, Option.map_some, List.getD_cons_zero, List.getD_cons_succ, List.set_cons_zero, List.set_cons_succ, List.map_cons, List.map_nil, List.replicate_zero, List.replicate_succ, List.length_cons, List.length_nil, List.cons_append, List.nil_append, Option.bind_some, if_true, if_false, Bool.false_eq_true, Nat.reduceSub, Nat.reduceAdd, Nat.reduceLeDiff, Nat.reduceLT, vAdd, vSub, vLt, vLe, vGt, vGe, vNeg, vEq, vNe, vEq2, vNe2, vMod, vDiv, vMul, vPow, Int.reduceToNat, vIx0, vIx1, vLenT, vLenC, vLenL, reduceIte, decide_true, decide_false, Bool.not_true, Bool.not_false, beq_self_eq_true, Bool.and_true, Bool.true_and, Bool.and_self, Bool.and_false, Bool.false_and]
  done
theorem lw_pow {hs : List Int} {i : Nat} {k : Int} (hi : i < hs.length) (hw : 0 ≤ hs.getD i 0 ∧ hs.getD i 0 ≤ 16) (h1 : 2 ≤ k) (h2 : k ≤ 6) : f__law_weight [Nk.d (.pow i k), .lst false (hs.map D.int)] = .ok (.int (k * hs.getD i 0)) := by
  have e := ix_int hi false
  have m : gMulA (.int k) (.int (hs.getD i 0)) = some (.int (k * hs.getD i 0)) := if_pos (show CMulA k (hs.getD i 0) from .inr (.inl ⟨by omega, by omega⟩))
  simp (disch := decide) only [f__law_weight, m__law_weight, Nk.d, ix2, in_num, in_unk, in_pow, in_plus, in_minus, in_times, eq_number_number, eq_number_unknown, eq_number_power, eq_unknown_number, eq_unknown_unknown, eq_unknown_power, eq_power_number, eq_power_unknown, eq_power_power, eq_plus_number, eq_plus_unknown, eq_plus_power, eq_minus_number, eq_minus_unknown, eq_minus_power, eq_times_number, eq_times_unknown, eq_times_power, e, m, x_seq, x_seq1, x_seq2, x_seq3, x_seq4, x_seq5, x_seq6, x_nil, x_if, x_if1, x_if2, x_if3, x_ret, x_ret1, x_ret2, x_ret3, x_retN, x_asg, x_asg1, x_asg2, x_asg3, x_asg4, x_asg5, x_gN, x_drop, x_drop1, x_drop2, x_bk, x_ct, x_raise, x_tZ, x_tZ1, x_tZ2, x_tE, x_tE1, x_tE2, x_tE3, x_tAnd, x_tAnd1, x_tAnd2, x_tAnd3, x_tOr, x_tOr1, x_tOr2, x_tOr3, x_tNot, x_tNot1, x_tNot2, x_tNot3, x_tTrue, x_z2, x_z21, x_z1, x_z11, x_zC, x_zC1, x_za, x_za1, x_za0, x_zV, x_zK, x_ch, x_ch1, x_ch2, x_eZ, x_eZ1, x_eZ2, x_eV, x_eV1, x_eM, x_eM1, x_b1, x_b2, x_b3, x_s1, x_s2, x_s3, x_oO, x_oO2, x_e2, x_e1, x_eC, x_aN, x_aC, x_tup, x_lst, x_call, x_oC1, x_oC2, x_call0, x_call01, x_eAnd, x_eAnd1, x_eOr, x_eOr1, x_eNot, x_eNot1, x_eIf, x_eIf1, x_fz_int, x_fr_int, x_fz_bl, x_fr_bl, x_fz_str, x_fr_str, x_fz_ty, x_fr_ty, x_fz_tup, x_fr_tup, x_fz_cst, x_fr_cst, x_fz_lst_false, x_fr_lst_false, x_fz_non, x_fr_non, x_fz_lt, x_fr_lt, x_fL0, x_fL1, x_cF, x_cR1, x_cR2, x_cR3, x_iL, x_iL1, x_iT, x_iT1, x_iS, x_iS1, x_iR1, x_iR11, x_iR2, x_iR21, x_iE, x_iE1, x_iV, x_iV1, x_iZ, x_iZ1, x_for, x_fo0, x_fo1, x_fo2, x_fo3, x_fo4, x_fo5, x_fo6, x_fo7, x_gT, x_gC, x_gC0, x_try, x_try1, x_try2, x_try3, x_try4, x_try5, x_nx1, x_nx2, x_try6, x_try7, x_nx3, x_nx4, x_app, x_app1, x_app2, x_lc, x_lcE, x_lc0, x_lc1, x_lcG, x_w0, x_w1, vMinL4, vMaxL4, vAll3, vAny3, vAll4, vAny4, x_wh1, x_wh2, x_wh0, x_abs, vI_ii, vI_ib, vI_it, vI_il, vI_is, vI_bb, vI_bi, vI_tt, vI_tl, vI_ti, vI_ll, vI_lt, vI_ss, vEqB, vNeB, x_ta, x_ta1, x_ta2, x_ta3, x_ta4, x_ta5, x_is, nc_0, nc_1, nc_2, nc_3, nc_4, nc_5, nc_6, nc_7, nc_8, nc_9, nc_10, nc_11, vMax2, vMin2, vIsN0, vIsN1, vNotN0, vNotN1, vIsN2, vNotN2, x_lo, x_lo1, x_lo2, vAll2, vAny2, x_sl, x_sl1, x_sl2, x_pn, x_ps, x_ps1, x_cutL, x_cutC, vEqS, vNeS, x_fz_obj, x_fr_obj, x_make, x_meth, x_meth2, x_meth3, x_isO, x_isO1, x_cat, x_cat1, x_methZ, x_methZ2, x_methZ3, x_callZ, x_callZ1, x_lend1, x_lend2, x_cl_int, x_cl_bl, x_cl_str, x_cl_non, x_cl_tup, x_cl0, x_cl1, x_cl_lst, x_setIx, x_setIx1, x_setIx2, x_callI, x_callI1, x_callI2, x_callI3, x_take0, x_take1, x_take2, x_put0, x_put1, x_cFI, x_cRI1, x_cRI2, x_outR, x_outR1, x_out1, x_out2, x_par, x_par1, x_sort, x_sort1, x_sort2, x_io2, x_io4, vIsB, x_pop, x_lr, x_lr1, x_clr, x_clr1, x_clrE, x_clrE1, x_pop1, x_pop2, x_ins, x_ins1, x_ins2, x_sk, x_sk1, x_sk2, x_sk3, x_ck, x_ck1, x_lk, x_lk1, x_iK, x_iK1, x_forB, x_fbD, x_fbR, x_fbR2, x_fzE, vInt1, vInt2, x_tupO, x_tupO1, x_tupO2, x_e2Z, x_e2Z1, x_appF, x_appF1, x_appF2, x_appF3, x_setF, x_setF1, x_setF2, x_setF3, x_setFd, x_setFd1, x_makeI, x_makeI1, x_methI, x_methI1, x_methI2, x_mz0, x_mz01, x_mz02, x_mz03, x_m0, x_m01, x_m02, x_m03, x_fz_objt, x_fr_objt, List.all_cons, List.all_nil, Option.isSome_some, Option.map_some, List.getD_cons_zero, List.getD_cons_succ, List.set_cons_zero, List.set_cons_succ, List.map_cons, List.map_nil, List.replicate_zero, List.replicate_succ, List.length_cons, List.length_nil, List.cons_append, List.nil_append, Option.bind_some, if_true, if_false, Bool.false_eq_true, Nat.reduceSub, Nat.reduceAdd, Nat.reduceLeDiff, Nat.reduceLT, vAdd, vSub, vLt, vLe, vGt, vGe, vNeg, vEq, vNe, vEq2, vNe2, vMod, vDiv, vMul, vPow, Int.reduceToNat, vIx0, vIx1, vLenT, vLenC, vLenL, reduceIte, decide_true, decide_false, Bool.not_true, Bool.not_false, beq_self_eq_true, Bool.and_true, Bool.true_and, Bool.and_self, Bool.and_false, Bool.false_and]
  done
theorem lw_plus {hs : List Int} {i j : Nat} (hi : i < hs.length) (hj : j < hs.length) : f__law_weight [Nk.d (.two "plus" i j), .lst false (hs.map D.int)] = .ok (.int (hs.getD i 0 + hs.getD j 0)) := by
  have e := ix_int hi false
  have e2 := ix_int hj false
  simp (disch := decide) only [f__law_weight, m__law_weight, Nk.d, ix2, in_num, in_unk, in_pow, in_plus, in_minus, in_times, eq_number_number, eq_number_unknown, eq_number_power, eq_unknown_number, eq_unknown_unknown, eq_unknown_power, eq_power_number, eq_power_unknown, eq_power_power, eq_plus_number, eq_plus_unknown, eq_plus_power, eq_minus_number, eq_minus_unknown, eq_minus_power, eq_times_number, eq_times_unknown, eq_times_power, e, e2, x_seq, x_seq1, x_seq2, x_seq3, x_seq4, x_seq5, x_seq6, x_nil, x_if, x_if1, x_if2, x_if3, x_ret, x_ret1, x_ret2, x_ret3, x_retN, x_asg, x_asg1, x_asg2, x_asg3, x_asg4, x_asg5, x_gN, x_drop, x_drop1, x_drop2, x_bk, x_ct, x_raise, x_tZ, x_tZ1, x_tZ2, x_tE, x_tE1, x_tE2, x_tE3, x_tAnd, x_tAnd1, x_tAnd2, x_tAnd3, x_tOr, x_tOr1, x_tOr2, x_tOr3, x_tNot, x_tNot1, x_tNot2, x_tNot3, x_tTrue, x_z2, x_z21, x_z1, x_z11, x_zC, x_zC1, x_za, x_za1, x_za0, x_zV, x_zK, x_ch, x_ch1, x_ch2, x_eZ, x_eZ1, x_eZ2, x_eV, x_eV1, x_eM, x_eM1, x_b1, x_b2, x_b3, x_s1, x_s2, x_s3, x_oO, x_oO2, x_e2, x_e1, x_eC, x_aN, x_aC, x_tup, x_lst, x_call, x_oC1, x_oC2, x_call0, x_call01, x_eAnd, x_eAnd1, x_eOr, x_eOr1, x_eNot, x_eNot1, x_eIf, x_eIf1, x_fz_int, x_fr_int, x_fz_bl, x_fr_bl, x_fz_str, x_fr_str, x_fz_ty, x_fr_ty, x_fz_tup, x_fr_tup, x_fz_cst, x_fr_cst, x_fz_lst_false, x_fr_lst_false, x_fz_non, x_fr_non, x_fz_lt, x_fr_lt, x_fL0, x_fL1, x_cF, x_cR1, x_cR2, x_cR3, x_iL, x_iL1, x_iT, x_iT1, x_iS, x_iS1, x_iR1, x_iR11, x_iR2, x_iR21, x_iE, x_iE1, x_iV, x_iV1, x_iZ, x_iZ1, x_for, x_fo0, x_fo1, x_fo2, x_fo3, x_fo4, x_fo5, x_fo6, x_fo7, x_gT, x_gC, x_gC0, x_try, x_try1, x_try2, x_try3, x_try4, x_try5, x_nx1, x_nx2, x_try6, x_try7, x_nx3, x_nx4, x_app, x_app1, x_app2, x_lc, x_lcE, x_lc0, x_lc1, x_lcG, x_w0, x_w1, vMinL4, vMaxL4, vAll3, vAny3, vAll4, vAny4, x_wh1, x_wh2, x_wh0, x_abs, vI_ii, vI_ib, vI_it, vI_il, vI_is, vI_bb, vI_bi, vI_tt, vI_tl, vI_ti, vI_ll, vI_lt, vI_ss, vEqB, vNeB, x_ta, x_ta1, x_ta2, x_ta3, x_ta4, x_ta5, x_is, nc_0, nc_1, nc_2, nc_3, nc_4, nc_5, nc_6, nc_7, nc_8, nc_9, nc_10, nc_11, vMax2, vMin2, vIsN0, vIsN1, vNotN0, vNotN1, vIsN2, vNotN2, x_lo, x_lo1, x_lo2, vAll2, vAny2, x_sl, x_sl1, x_sl2, x_pn, x_ps, x_ps1, x_cutL, x_cutC, vEqS, vNeS, x_fz_obj, x_fr_obj, x_make, x_meth, x_meth2, x_meth3, x_isO, x_isO1, x_cat, x_cat1, x_methZ, x_methZ2, x_methZ3, x_callZ, x_callZ1, x_lend1, x_lend2, x_cl_int, x_cl_bl, x_cl_str, x_cl_non, x_cl_tup, x_cl0, x_cl1, x_cl_lst, x_setIx, x_setIx1, x_setIx2, x_callI, x_callI1, x_callI2, x_callI3, x_take0, x_take1, x_take2, x_put0, x_put1, x_cFI, x_cRI1, x_cRI2, x_outR, x_outR1, x_out1, x_out2, x_par, x_par1, x_sort, x_sort1, x_sort2, x_io2, x_io4, vIsB, x_pop, x_lr, x_lr1, x_clr, x_clr1, x_clrE, x_clrE1, x_pop1, x_pop2, x_ins, x_ins1, x_ins2, x_sk, x_sk1, x_sk2, x_sk3, x_ck, x_ck1, x_lk, x_lk1, x_iK, x_iK1, x_forB, x_fbD, x_fbR, x_fbR2, x_fzE, vInt1, vInt2, x_tupO, x_tupO1, x_tupO2, x_e2Z, x_e2Z1, x_appF, x_appF1, x_appF2, x_appF3, x_setF, x_setF1, x_setF2, x_setF3, x_setFd, x_setFd1, x_makeI, x_makeI1, x_methI, x_methI1, x_methI2, x_mz0, x_mz01, x_mz02, x_mz03, x_m0, x_m01, x_m02, x_m03, x_fz_objt, x_fr_objt, List.all_cons, List.all_nil, Option.isSome_some, Option.map_some, List.getD_cons_zero, List.getD_cons_succ, List.set_cons_zero, List.set_cons_succ, List.map_cons, List.map_nil, List.replicate_zero, List.replicate_succ, List.length_cons, List.length_nil, List.cons_append, List.nil_append, Option.bind_some, if_true, if_false, Bool.false_eq_true, Nat.reduceSub, Nat.reduceAdd, Nat.reduceLeDiff, Nat.reduceLT, vAdd, vSub, vLt, vLe, vGt, vGe, vNeg, vEq, vNe, vEq2, vNe2, vMod, vDiv, vMul, vPow, Int.reduceToNat, vIx0, vIx1, vLenT, vLenC, vLenL, reduceIte, decide_true, decide_false, Bool.not_true, Bool.not_false, beq_self_eq_true, Bool.and_true, Bool.true_and, Bool.and_self, Bool.and_false, Bool.false_and]
  done
theorem lw_minus {hs : List Int} {i j : Nat} (hi : i < hs.length) (hj : j < hs.length) : f__law_weight [Nk.d (.two "minus" i j), .lst false (hs.map D.int)] = .ok (.int (hs.getD i 0 + hs.getD j 0)) := by
  have e := ix_int hi false
  have e2 := ix_int hj false
  simp (disch := decide) only [f__law_weight, m__law_weight, Nk.d, ix2, in_num, in_unk, in_pow, in_plus, in_minus, in_times, eq_number_number, eq_number_unknown, eq_number_power, eq_unknown_number, eq_unknown_unknown, eq_unknown_power, eq_power_number, eq_power_unknown, eq_power_power, eq_plus_number, eq_plus_unknown, eq_plus_power, eq_minus_number, eq_minus_unknown, eq_minus_power, eq_times_number, eq_times_unknown, eq_times_power, e, e2, x_seq, x_seq1, x_seq2, x_seq3, x_seq4, x_seq5, x_seq6, x_nil, x_if, x_if1, x_if2, x_if3, x_ret, x_ret1, x_ret2, x_ret3, x_retN, x_asg, x_asg1, x_asg2, x_asg3, x_asg4, x_asg5, x_gN, x_drop, x_drop1, x_drop2, x_bk, x_ct, x_raise, x_tZ, x_tZ1, x_tZ2, x_tE, x_tE1, x_tE2, x_tE3, x_tAnd, x_tAnd1, x_tAnd2, x_tAnd3, x_tOr, x_tOr1, x_tOr2, x_tOr3, x_tNot, x_tNot1, x_tNot2, x_tNot3, x_tTrue, x_z2, x_z21, x_z1, x_z11, x_zC, x_zC1, x_za, x_za1, x_za0, x_zV, x_zK, x_ch, x_ch1, x_ch2, x_eZ, x_eZ1, x_eZ2, x_eV, x_eV1, x_eM, x_eM1, x_b1, x_b2, x_b3, x_s1, x_s2, x_s3, x_oO, x_oO2, x_e2, x_e1, x_eC, x_aN, x_aC, x_tup, x_lst, x_call, x_oC1, x_oC2, x_call0, x_call01, x_eAnd, x_eAnd1, x_eOr, x_eOr1, x_eNot, x_eNot1, x_eIf, x_eIf1, x_fz_int, x_fr_int, x_fz_bl, x_fr_bl, x_fz_str, x_fr_str, x_fz_ty, x_fr_ty, x_fz_tup, x_fr_tup, x_fz_cst, x_fr_cst, x_fz_lst_false, x_fr_lst_false, x_fz_non, x_fr_non, x_fz_lt, x_fr_lt, x_fL0, x_fL1, x_cF, x_cR1, x_cR2, x_cR3, x_iL, x_iL1, x_iT, x_iT1, x_iS, x_iS1, x_iR1, x_iR11, x_iR2, x_iR21, x_iE, x_iE1, x_iV, x_iV1, x_iZ, x_iZ1, x_for, x_fo0, x_fo1, x_fo2, x_fo3, x_fo4, x_fo5, x_fo6, x_fo7, x_gT, x_gC, x_gC0, x_try, x_try1, x_try2, x_try3, x_try4, x_try5, x_nx1, x_nx2, x_try6, x_try7, x_nx3, x_nx4, x_app, x_app1, x_app2, x_lc, x_lcE, x_lc0, x_lc1, x_lcG, x_w0, x_w1, vMinL4, vMaxL4, vAll3, vAny3, vAll4, vAny4, x_wh1, x_wh2, x_wh0, x_abs, vI_ii, vI_ib, vI_it, vI_il, vI_is, vI_bb, vI_bi, vI_tt, vI_tl, vI_ti, vI_ll, vI_lt, vI_ss, vEqB, vNeB, x_ta, x_ta1, x_ta2, x_ta3, x_ta4, x_ta5, x_is, nc_0, nc_1, nc_2, nc_3, nc_4, nc_5, nc_6, nc_7, nc_8, nc_9, nc_10, nc_11, vMax2, vMin2, vIsN0, vIsN1, vNotN0, vNotN1, vIsN2, vNotN2, x_lo, x_lo1, x_lo2, vAll2, vAny2, x_sl, x_sl1, x_sl2, x_pn, x_ps, x_ps1, x_cutL, x_cutC, vEqS, vNeS, x_fz_obj, x_fr_obj, x_make, x_meth, x_meth2, x_meth3, x_isO, x_isO1, x_cat, x_cat1, x_methZ, x_methZ2, x_methZ3, x_callZ, x_callZ1, x_lend1, x_lend2, x_cl_int, x_cl_bl, x_cl_str, x_cl_non, x_cl_tup, x_cl0, x_cl1, x_cl_lst, x_setIx, x_setIx1, x_setIx2, x_callI, x_callI1, x_callI2, x_callI3, x_take0, x_take1, x_take2, x_put0, x_put1, x_cFI, x_cRI1, x_cRI2, x_outR, x_outR1, x_out1, x_out2, x_par, x_par1, x_sort, x_sort1, x_sort2, x_io2, x_io4, vIsB, x_pop, x_lr, x_lr1, x_clr, x_clr1, x_clrE, x_clrE1, x_pop1, x_pop2, x_ins, x_ins1, x_ins2, x_sk, x_sk1, x_sk2, x_sk3, x_ck, x_ck1, x_lk, x_lk1, x_iK, x_iK1, x_forB, x_fbD, x_fbR, x_fbR2, x_fzE, vInt1, vInt2, x_tupO, x_tupO1, x_tupO2, x_e2Z, x_e2Z1, x_appF, x_appF1, x_appF2, x_appF3, x_setF, x_setF1, x_setF2, x_setF3, x_setFd, x_setFd1, x_makeI, x_makeI1, x_methI, x_methI1, x_methI2, x_mz0, x_mz01, x_mz02, x_mz03, x_m0, x_m01, x_m02, x_m03, x_fz_objt, x_fr_objt, List.all_cons, List.all_nil, Option.isSome_some, Option.map_some, List.getD_cons_zero, List.getD_cons_succ, List.set_cons_zero, List.set_cons_succ, List.map_cons, List.map_nil, List.replicate_zero, List.replicate_succ, List.length_cons, List.length_nil, List.cons_append, List.nil_append, Option.bind_some, if_true, if_false, Bool.false_eq_true, Nat.reduceSub, Nat.reduceAdd, Nat.reduceLeDiff, Nat.reduceLT, vAdd, vSub, vLt, vLe, vGt, vGe, vNeg, vEq, vNe, vEq2, vNe2, vMod, vDiv, vMul, vPow, Int.reduceToNat, vIx0, vIx1, vLenT, vLenC, vLenL, reduceIte, decide_true, decide_false, Bool.not_true, Bool.not_false, beq_self_eq_true, Bool.and_true, Bool.true_and, Bool.and_self, Bool.and_false, Bool.false_and]
  done
theorem lw_times {hs : List Int} {i j : Nat} (hi : i < hs.length) (hj : j < hs.length) : f__law_weight [Nk.d (.two "times" i j), .lst false (hs.map D.int)] = .ok (.int (hs.getD i 0 + hs.getD j 0)) := by
  have e := ix_int hi false
  have e2 := ix_int hj false
  simp (disch := decide) only [f__law_weight, m__law_weight, Nk.d, ix2, in_num, in_unk, in_pow, in_plus, in_minus, in_times, eq_number_number, eq_number_unknown, eq_number_power, eq_unknown_number, eq_unknown_unknown, eq_unknown_power, eq_power_number, eq_power_unknown, eq_power_power, eq_plus_number, eq_plus_unknown, eq_plus_power, eq_minus_number, eq_minus_unknown, eq_minus_power, eq_times_number, eq_times_unknown, eq_times_power, e, e2, x_seq, x_seq1, x_seq2, x_seq3, x_seq4, x_seq5, x_seq6, x_nil, x_if, x_if1, x_if2, x_if3, x_ret, x_ret1, x_ret2, x_ret3, x_retN, x_asg, x_asg1, x_asg2, x_asg3, x_asg4, x_asg5, x_gN, x_drop, x_drop1, x_drop2, x_bk, x_ct, x_raise, x_tZ, x_tZ1, x_tZ2, x_tE, x_tE1, x_tE2, x_tE3, x_tAnd, x_tAnd1, x_tAnd2, x_tAnd3, x_tOr, x_tOr1, x_tOr2, x_tOr3, x_tNot, x_tNot1, x_tNot2, x_tNot3, x_tTrue, x_z2, x_z21, x_z1, x_z11, x_zC, x_zC1, x_za, x_za1, x_za0, x_zV, x_zK, x_ch, x_ch1, x_ch2, x_eZ, x_eZ1, x_eZ2, x_eV, x_eV1, x_eM, x_eM1, x_b1, x_b2, x_b3, x_s1, x_s2, x_s3, x_oO, x_oO2, x_e2, x_e1, x_eC, x_aN, x_aC, x_tup, x_lst, x_call, x_oC1, x_oC2, x_call0, x_call01, x_eAnd, x_eAnd1, x_eOr, x_eOr1, x_eNot, x_eNot1, x_eIf, x_eIf1, x_fz_int, x_fr_int, x_fz_bl, x_fr_bl, x_fz_str, x_fr_str, x_fz_ty, x_fr_ty, x_fz_tup, x_fr_tup, x_fz_cst, x_fr_cst, x_fz_lst_false, x_fr_lst_false, x_fz_non, x_fr_non, x_fz_lt, x_fr_lt, x_fL0, x_fL1, x_cF, x_cR1, x_cR2, x_cR3, x_iL, x_iL1, x_iT, x_iT1, x_iS, x_iS1, x_iR1, x_iR11, x_iR2, x_iR21, x_iE, x_iE1, x_iV, x_iV1, x_iZ, x_iZ1, x_for, x_fo0, x_fo1, x_fo2, x_fo3, x_fo4, x_fo5, x_fo6, x_fo7, x_gT, x_gC, x_gC0, x_try, x_try1, x_try2, x_try3, x_try4, x_try5, x_nx1, x_nx2, x_try6, x_try7, x_nx3, x_nx4, x_app, x_app1, x_app2, x_lc, x_lcE, x_lc0, x_lc1, x_lcG, x_w0, x_w1, vMinL4, vMaxL4, vAll3, vAny3, vAll4, vAny4, x_wh1, x_wh2, x_wh0, x_abs, vI_ii, vI_ib, vI_it, vI_il, vI_is, vI_bb, vI_bi, vI_tt, vI_tl, vI_ti, vI_ll, vI_lt, vI_ss, vEqB, vNeB, x_ta, x_ta1, x_ta2, x_ta3, x_ta4, x_ta5, x_is, nc_0, nc_1, nc_2, nc_3, nc_4, nc_5, nc_6, nc_7, nc_8, nc_9, nc_10, nc_11, vMax2, vMin2, vIsN0, vIsN1, vNotN0, vNotN1, vIsN2, vNotN2, x_lo, x_lo1, x_lo2, vAll2, vAny2, x_sl, x_sl1, x_sl2, x_pn, x_ps, x_ps1, x_cutL, x_cutC, vEqS, vNeS, x_fz_obj, x_fr_obj, x_make, x_meth, x_meth2, x_meth3, x_isO, x_isO1, x_cat, x_cat1, x_methZ, x_methZ2, x_methZ3, x_callZ, x_callZ1, x_lend1, x_lend2, x_cl_int, x_cl_bl, x_cl_str, x_cl_non, x_cl_tup, x_cl0, x_cl1, x_cl_lst, x_setIx, x_setIx1, x_setIx2, x_callI, x_callI1, x_callI2, x_callI3, x_take0, x_take1, x_take2, x_put0, x_put1, x_cFI, x_cRI1, x_cRI2, x_outR, x_outR1, x_out1, x_out2, x_par, x_par1, x_sort, x_sort1, x_sort2, x_io2, x_io4, vIsB, x_pop, x_lr, x_lr1, x_clr, x_clr1, x_clrE, x_clrE1, x_pop1, x_pop2, x_ins, x_ins1, x_ins2, x_sk, x_sk1, x_sk2, x_sk3, x_ck, x_ck1, x_lk, x_lk1, x_iK, x_iK1, x_forB, x_fbD, x_fbR, x_fbR2, x_fzE, vInt1, vInt2, x_tupO, x_tupO1, x_tupO2, x_e2Z, x_e2Z1, x_appF, x_appF1, x_appF2, x_appF3, x_setF, x_setF1, x_setF2, x_setF3, x_setFd, x_setFd1, x_makeI, x_makeI1, x_methI, x_methI1, x_methI2, x_mz0, x_mz01, x_mz02, x_mz03, x_m0, x_m01, x_m02, x_m03, x_fz_objt, x_fr_objt, List.all_cons, List.all_nil, Option.isSome_some, Option.map_some, List.getD_cons_zero, List.getD_cons_succ, List.set_cons_zero, List.set_cons_succ, List.map_cons, List.map_nil, List.replicate_zero, List.replicate_succ, List.length_cons, List.length_nil, List.cons_append, List.nil_append, Option.bind_some, if_true, if_false, Bool.false_eq_true, Nat.reduceSub, Nat.reduceAdd, Nat.reduceLeDiff, Nat.reduceLT, vAdd, vSub, vLt, vLe, vGt, vGe, vNeg, vEq, vNe, vEq2, vNe2, vMod, vDiv, vMul, vPow, Int.reduceToNat, vIx0, vIx1, vLenT, vLenC, vLenL, reduceIte, decide_true, decide_false, Bool.not_true, Bool.not_false, beq_self_eq_true, Bool.and_true, Bool.true_and, Bool.and_self, Bool.and_false, Bool.false_and]
  done
theorem whole_ok (j : Int) : f__law_whole [.int j] = .ok (.bl true) := by
  simp (disch := decide) only [f__law_whole, m__law_whole, x_seq, x_seq1, x_seq2, x_seq3, x_seq4, x_seq5, x_seq6, x_nil, x_if, x_if1, x_if2, x_if3, x_ret, x_ret1, x_ret2, x_ret3, x_retN, x_asg, x_asg1, x_asg2, x_asg3, x_asg4, x_asg5, x_gN, x_drop, x_drop1, x_drop2, x_bk, x_ct, x_raise, x_tZ, x_tZ1, x_tZ2, x_tE, x_tE1, x_tE2, x_tE3, x_tAnd, x_tAnd1, x_tAnd2, x_tAnd3, x_tOr, x_tOr1, x_tOr2, x_tOr3, x_tNot, x_tNot1, x_tNot2, x_tNot3, x_tTrue, x_z2, x_z21, x_z1, x_z11, x_zC, x_zC1, x_za, x_za1, x_za0, x_zV, x_zK, x_ch, x_ch1, x_ch2, x_eZ, x_eZ1, x_eZ2, x_eV, x_eV1, x_eM, x_eM1, x_b1, x_b2, x_b3, x_s1, x_s2, x_s3, x_oO, x_oO2, x_e2, x_e1, x_eC, x_aN, x_aC, x_tup, x_lst, x_call, x_oC1, x_oC2, x_call0, x_call01, x_eAnd, x_eAnd1, x_eOr, x_eOr1, x_eNot, x_eNot1, x_eIf, x_eIf1, x_fz_int, x_fr_int, x_fz_bl, x_fr_bl, x_fz_str, x_fr_str, x_fz_ty, x_fr_ty, x_fz_tup, x_fr_tup, x_fz_cst, x_fr_cst, x_fz_lst_false, x_fr_lst_false, x_fz_non, x_fr_non, x_fz_lt, x_fr_lt, x_fL0, x_fL1, x_cF, x_cR1, x_cR2, x_cR3, x_iL, x_iL1, x_iT, x_iT1, x_iS, x_iS1, x_iR1, x_iR11, x_iR2, x_iR21, x_iE, x_iE1, x_iV, x_iV1, x_iZ, x_iZ1, x_for, x_fo0, x_fo1, x_fo2, x_fo3, x_fo4, x_fo5, x_fo6, x_fo7, x_gT, x_gC, x_gC0, x_try, x_try1, x_try2, x_try3, x_try4, x_try5, x_nx1, x_nx2, x_try6, x_try7, x_nx3, x_nx4, x_app, x_app1, x_app2, x_lc, x_lcE, x_lc0, x_lc1, x_lcG, x_w0, x_w1, vMinL4, vMaxL4, vAll3, vAny3, vAll4, vAny4, x_wh1, x_wh2, x_wh0, x_abs, vI_ii, vI_ib, vI_it, vI_il, vI_is, vI_bb, vI_bi, vI_tt, vI_tl, vI_ti, vI_ll, vI_lt, vI_ss, vEqB, vNeB, x_ta, x_ta1, x_ta2, x_ta3, x_ta4, x_ta5, x_is, nc_0, nc_1, nc_2, nc_3, nc_4, nc_5, nc_6, nc_7, nc_8, nc_9, nc_10, nc_11, vMax2, vMin2, vIsN0, vIsN1, vNotN0, vNotN1, vIsN2, vNotN2, x_lo, x_lo1, x_lo2, vAll2, vAny2, x_sl, x_sl1, x_sl2, x_pn, x_ps, x_ps1, x_cutL, x_cutC, vEqS, vNeS, x_fz_obj, x_fr_obj, x_make, x_meth, x_meth2, x_meth3, x_isO, x_isO1, x_cat, x_cat1, x_methZ, x_methZ2, x_methZ3, x_callZ, x_callZ1, x_lend1, x_lend2, x_cl_int, x_cl_bl, x_cl_str, x_cl_non, x_cl_tup, x_cl0, x_cl1, x_cl_lst, x_setIx, x_setIx1, x_setIx2, x_callI, x_callI1, x_callI2, x_callI3, x_take0, x_take1, x_take2, x_put0, x_put1, x_cFI, x_cRI1, x_cRI2, x_outR, x_outR1, x_out1, x_out2, x_par, x_par1, x_sort, x_sort1, x_sort2, x_io2, x_io4, vIsB, x_pop, x_lr, x_lr1, x_clr, x_clr1, x_clrE, x_clrE1, x_pop1, x_pop2, x_ins, x_ins1, x_ins2, x_sk, x_sk1, x_sk2, x_sk3, x_ck, x_ck1, x_lk, x_lk1, x_iK, x_iK1, x_forB, x_fbD, x_fbR, x_fbR2, x_fzE, vInt1, vInt2, x_tupO, x_tupO1, x_tupO2, x_e2Z, x_e2Z1, x_appF, x_appF1, x_appF2, x_appF3, x_setF, x_setF1, x_setF2, x_setF3, x_setFd, x_setFd1, x_makeI, x_makeI1, x_methI, x_methI1, x_methI2, x_mz0, x_mz01, x_mz02, x_mz03, x_m0, x_m01, x_m02, x_m03, x_fz_objt, x_fr_objt, List.all_cons, List.all_nil, Option.isSome_some, Option.map_some, List.getD_cons_zero, List.getD_cons_succ, List.set_cons_zero, List.set_cons_succ, List.map_cons, List.map_nil, List.replicate_zero, List.replicate_succ, List.length_cons, List.length_nil, List.cons_append, List.nil_append, Option.bind_some, if_true, if_false, Bool.false_eq_true, Nat.reduceSub, Nat.reduceAdd, Nat.reduceLeDiff, Nat.reduceLT, vAdd, vSub, vLt, vLe, vGt, vGe, vNeg, vEq, vNe, vEq2, vNe2, vMod, vDiv, vMul, vPow, Int.reduceToNat, vIx0, vIx1, vLenT, vLenC, vLenL, reduceIte, decide_true, decide_false, Bool.not_true, Bool.not_false, beq_self_eq_true, Bool.and_true, Bool.true_and, Bool.and_self, Bool.and_false, Bool.false_and]
  done
theorem one_ok (m : Bool) (j : Int) : Bn.Ok 1 (.lst m [.int j]) := ok_lst fun d hd => by cases List.mem_singleton.mp hd; exact ok_int j
theorem eq_one (m m' : Bool) (j : Int) : gEq (.lst m [.int j]) (.lst m' [.int j]) = some (.bl true) := vEqX (one_ok m j) (one_ok m' j) rfl
theorem ref_ok (m : Bool) : Bn.Ok 1 (.lst m [.str "refused"]) := ok_lst fun d hd => by
  cases List.mem_singleton.mp hd
  exact ok_str (show PySem.PyData.strOk "refused" = true by decide +kernel)
theorem eq_ref (m m' : Bool) : gEq (.lst m [.str "refused"]) (.lst m' [.str "refused"]) = some (.bl true) := vEqX (ref_ok m) (ref_ok m') rfl
theorem ixh (m : Bool) (d : D) : gIx (.lst m [d]) (.int 0) = some d := vIxL_of (k := 0) rfl rfl
theorem step_old {ks : List D} {hs : List Int} {n : D} {j : Int} (h : gInD false n (.lst true ks) = some (.bl true)) (hr : gIndex (.lst true ks) n = some (.int j)) (hz : isFz n = true) : f__law_step [ntD true ks hs, .lst true ks, .lst true (hs.map D.int), n] = .ok (.bl true) [ntD true ks hs, .lst true ks, .lst true (hs.map D.int)] := by
  have p := law_put_ok (hs := hs) hz (put_old (hs := hs) h hr hz rfl) rfl
  have e2 : freeze n = n := freeze_of hz
  unfold f__law_step callFI
  simp (disch := decide) only [m__law_step, p, h, hr, hz, e2, whole_ok, eq_one, ixh, List.length_cons, List.length_nil, List.map_cons, List.map_nil, if_true, x_seq, x_seq1, x_seq2, x_seq3, x_seq4, x_seq5, x_seq6, x_nil, x_if, x_if1, x_if2, x_if3, x_ret, x_ret1, x_ret2, x_ret3, x_retN, x_asg, x_asg1, x_asg2, x_asg3, x_asg4, x_asg5, x_gN, x_drop, x_drop1, x_drop2, x_bk, x_ct, x_raise, x_tZ, x_tZ1, x_tZ2, x_tE, x_tE1, x_tE2, x_tE3, x_tAnd, x_tAnd1, x_tAnd2, x_tAnd3, x_tOr, x_tOr1, x_tOr2, x_tOr3, x_tNot, x_tNot1, x_tNot2, x_tNot3, x_tTrue, x_z2, x_z21, x_z1, x_z11, x_zC, x_zC1, x_za, x_za1, x_za0, x_zV, x_zK, x_ch, x_ch1, x_ch2, x_eZ, x_eZ1, x_eZ2, x_eV, x_eV1, x_eM, x_eM1, x_b1, x_b2, x_b3, x_s1, x_s2, x_s3, x_oO, x_oO2, x_e2, x_e1, x_eC, x_aN, x_aC, x_tup, x_lst, x_call, x_oC1, x_oC2, x_call0, x_call01, x_eAnd, x_eAnd1, x_eOr, x_eOr1, x_eNot, x_eNot1, x_eIf, x_eIf1, x_fz_int, x_fr_int, x_fz_bl, x_fr_bl, x_fz_str, x_fr_str, x_fz_ty, x_fr_ty, x_fz_tup, x_fr_tup, x_fz_cst, x_fr_cst, x_fz_lst_false, x_fr_lst_false, x_fz_non, x_fr_non, x_fz_lt, x_fr_lt, x_fL0, x_fL1, x_cF, x_cR1, x_cR2, x_cR3, x_iL, x_iL1, x_iT, x_iT1, x_iS, x_iS1, x_iR1, x_iR11, x_iR2, x_iR21, x_iE, x_iE1, x_iV, x_iV1, x_iZ, x_iZ1, x_for, x_fo0, x_fo1, x_fo2, x_fo3, x_fo4, x_fo5, x_fo6, x_fo7, x_gT, x_gC, x_gC0, x_try, x_try1, x_try2, x_try3, x_try4, x_try5, x_nx1, x_nx2, x_try6, x_try7, x_nx3, x_nx4, x_app, x_app1, x_app2, x_lc, x_lcE, x_lc0, x_lc1, x_lcG, x_w0, x_w1, vMinL4, vMaxL4, vAll3, vAny3, vAll4, vAny4, x_wh1, x_wh2, x_wh0, x_abs, vI_ii, vI_ib, vI_it, vI_il, vI_is, vI_bb, vI_bi, vI_tt, vI_tl, vI_ti, vI_ll, vI_lt, vI_ss, vEqB, vNeB, x_ta, x_ta1, x_ta2, x_ta3, x_ta4, x_ta5, x_is, nc_0, nc_1, nc_2, nc_3, nc_4, nc_5, nc_6, nc_7, nc_8, nc_9, nc_10, nc_11, vMax2, vMin2, vIsN0, vIsN1, vNotN0, vNotN1, vIsN2, vNotN2, x_lo, x_lo1, x_lo2, vAll2, vAny2, x_sl, x_sl1, x_sl2, x_pn, x_ps, x_ps1, x_cutL, x_cutC, vEqS, vNeS, x_fz_obj, x_fr_obj, x_make, x_meth, x_meth2, x_meth3, x_isO, x_isO1, x_cat, x_cat1, x_methZ, x_methZ2, x_methZ3, x_callZ, x_callZ1, x_lend1, x_lend2, x_cl_int, x_cl_bl, x_cl_str, x_cl_non, x_cl_tup, x_cl0, x_cl1, x_cl_lst, x_setIx, x_setIx1, x_setIx2, x_callI, x_callI1, x_callI2, x_callI3, x_take0, x_take1, x_take2, x_put0, x_put1, x_cFI, x_cRI1, x_cRI2, x_outR, x_outR1, x_out1, x_out2, x_par, x_par1, x_sort, x_sort1, x_sort2, x_io2, x_io4, vIsB, x_pop, x_lr, x_lr1, x_clr, x_clr1, x_clrE, x_clrE1, x_pop1, x_pop2, x_ins, x_ins1, x_ins2, x_sk, x_sk1, x_sk2, x_sk3, x_ck, x_ck1, x_lk, x_lk1, x_iK, x_iK1, x_forB, x_fbD, x_fbR, x_fbR2, x_fzE, vInt1, vInt2, x_tupO, x_tupO1, x_tupO2, x_e2Z, x_e2Z1, x_appF, x_appF1, x_appF2, x_appF3, x_setF, x_setF1, x_setF2, x_setF3, x_setFd, x_setFd1, x_makeI, x_makeI1, x_methI, x_methI1, x_methI2, x_mz0, x_mz01, x_mz02, x_mz03, x_m0, x_m01, x_m02, x_m03, x_fz_objt, x_fr_objt, List.all_cons, List.all_nil, Option.isSome_some, Option.map_some, List.getD_cons_zero, List.getD_cons_succ, List.set_cons_zero, List.set_cons_succ, List.map_cons, List.map_nil, List.replicate_zero, List.replicate_succ, List.length_cons, List.length_nil, List.cons_append, List.nil_append, Option.bind_some, if_true, if_false, Bool.false_eq_true, Nat.reduceSub, Nat.reduceAdd, Nat.reduceLeDiff, Nat.reduceLT, vAdd, vSub, vLt, vLe, vGt, vGe, vNeg, vEq, vNe, vEq2, vNe2, vMod, vDiv, vMul, vPow, Int.reduceToNat, vIx0, vIx1, vLenT, vLenC, vLenL, reduceIte, decide_true, decide_false, Bool.not_true, Bool.not_false, beq_self_eq_true, Bool.and_true, Bool.true_and, Bool.and_self, Bool.and_false, Bool.false_and]
  rfl
theorem step_full {ks : List D} {hs : List Int} {n : D} {w : Int} (h : gInD false n (.lst true ks) = some (.bl false)) (hz : isFz n = true) (hw : f_weight_of [n, .lst false (hs.map D.int)] = .ok (.int w)) (hw' : f__law_weight [n, .lst false (hs.map D.int)] = .ok (.int w)) (hx : 16 < w ∨ 60 ≤ ks.length) : f__law_step [ntD true ks hs, .lst true ks, .lst true (hs.map D.int), n] = .ok (.bl true) [ntD true ks hs, .lst true ks, .lst true (hs.map D.int)] := by
  have p := law_put_ex (hs := hs) hz (put_full (hs := hs) h hz hw hx)
  have e2 : freeze n = n := freeze_of hz
  have e1 : freeze (.lst true (hs.map D.int)) = .lst false (hs.map D.int) := by
    show D.lst false (freezeL (hs.map D.int)) = _
    rw [fz_map (fun _ => rfl) hs]
  unfold f__law_step callFI
  by_cases c : 16 < w
  · simp (disch := decide) only [m__law_step, p, h, hz, e1, e2, hw', eCallZ, lendR, whole_ok, eq_ref, ixh, decide_eq_true c, List.length_cons, List.length_nil, List.map_cons, List.map_nil, if_true, x_seq, x_seq1, x_seq2, x_seq3, x_seq4, x_seq5, x_seq6, x_nil, x_if, x_if1, x_if2, x_if3, x_ret, x_ret1, x_ret2, x_ret3, x_retN, x_asg, x_asg1, x_asg2, x_asg3, x_asg4, x_asg5, x_gN, x_drop, x_drop1, x_drop2, x_bk, x_ct, x_raise, x_tZ, x_tZ1, x_tZ2, x_tE, x_tE1, x_tE2, x_tE3, x_tAnd, x_tAnd1, x_tAnd2, x_tAnd3, x_tOr, x_tOr1, x_tOr2, x_tOr3, x_tNot, x_tNot1, x_tNot2, x_tNot3, x_tTrue, x_z2, x_z21, x_z1, x_z11, x_zC, x_zC1, x_za, x_za1, x_za0, x_zV, x_zK, x_ch, x_ch1, x_ch2, x_eZ, x_eZ1, x_eZ2, x_eV, x_eV1, x_eM, x_eM1, x_b1, x_b2, x_b3, x_s1, x_s2, x_s3, x_oO, x_oO2, x_e2, x_e1, x_eC, x_aN, x_aC, x_tup, x_lst, x_call, x_oC1, x_oC2, x_call0, x_call01, x_eAnd, x_eAnd1, x_eOr, x_eOr1, x_eNot, x_eNot1, x_eIf, x_eIf1, x_fz_int, x_fr_int, x_fz_bl, x_fr_bl, x_fz_str, x_fr_str, x_fz_ty, x_fr_ty, x_fz_tup, x_fr_tup, x_fz_cst, x_fr_cst, x_fz_lst_false, x_fr_lst_false, x_fz_non, x_fr_non, x_fz_lt, x_fr_lt, x_fL0, x_fL1, x_cF, x_cR1, x_cR2, x_cR3, x_iL, x_iL1, x_iT, x_iT1, x_iS, x_iS1, x_iR1, x_iR11, x_iR2, x_iR21, x_iE, x_iE1, x_iV, x_iV1, x_iZ, x_iZ1, x_for, x_fo0, x_fo1, x_fo2, x_fo3, x_fo4, x_fo5, x_fo6, x_fo7, x_gT, x_gC, x_gC0, x_try, x_try1, x_try2, x_try3, x_try4, x_try5, x_nx1, x_nx2, x_try6, x_try7, x_nx3, x_nx4, x_app, x_app1, x_app2, x_lc, x_lcE, x_lc0, x_lc1, x_lcG, x_w0, x_w1, vMinL4, vMaxL4, vAll3, vAny3, vAll4, vAny4, x_wh1, x_wh2, x_wh0, x_abs, vI_ii, vI_ib, vI_it, vI_il, vI_is, vI_bb, vI_bi, vI_tt, vI_tl, vI_ti, vI_ll, vI_lt, vI_ss, vEqB, vNeB, x_ta, x_ta1, x_ta2, x_ta3, x_ta4, x_ta5, x_is, nc_0, nc_1, nc_2, nc_3, nc_4, nc_5, nc_6, nc_7, nc_8, nc_9, nc_10, nc_11, vMax2, vMin2, vIsN0, vIsN1, vNotN0, vNotN1, vIsN2, vNotN2, x_lo, x_lo1, x_lo2, vAll2, vAny2, x_sl, x_sl1, x_sl2, x_pn, x_ps, x_ps1, x_cutL, x_cutC, vEqS, vNeS, x_fz_obj, x_fr_obj, x_make, x_meth, x_meth2, x_meth3, x_isO, x_isO1, x_cat, x_cat1, x_methZ, x_methZ2, x_methZ3, x_callZ, x_callZ1, x_lend1, x_lend2, x_cl_int, x_cl_bl, x_cl_str, x_cl_non, x_cl_tup, x_cl0, x_cl1, x_cl_lst, x_setIx, x_setIx1, x_setIx2, x_callI, x_callI1, x_callI2, x_callI3, x_take0, x_take1, x_take2, x_put0, x_put1, x_cFI, x_cRI1, x_cRI2, x_outR, x_outR1, x_out1, x_out2, x_par, x_par1, x_sort, x_sort1, x_sort2, x_io2, x_io4, vIsB, x_pop, x_lr, x_lr1, x_clr, x_clr1, x_clrE, x_clrE1, x_pop1, x_pop2, x_ins, x_ins1, x_ins2, x_sk, x_sk1, x_sk2, x_sk3, x_ck, x_ck1, x_lk, x_lk1, x_iK, x_iK1, x_forB, x_fbD, x_fbR, x_fbR2, x_fzE, vInt1, vInt2, x_tupO, x_tupO1, x_tupO2, x_e2Z, x_e2Z1, x_appF, x_appF1, x_appF2, x_appF3, x_setF, x_setF1, x_setF2, x_setF3, x_setFd, x_setFd1, x_makeI, x_makeI1, x_methI, x_methI1, x_methI2, x_mz0, x_mz01, x_mz02, x_mz03, x_m0, x_m01, x_m02, x_m03, x_fz_objt, x_fr_objt, List.all_cons, List.all_nil, Option.isSome_some, Option.map_some, List.getD_cons_zero, List.getD_cons_succ, List.set_cons_zero, List.set_cons_succ, List.map_cons, List.map_nil, List.replicate_zero, List.replicate_succ, List.length_cons, List.length_nil, List.cons_append, List.nil_append, Option.bind_some, if_true, if_false, Bool.false_eq_true, Nat.reduceSub, Nat.reduceAdd, Nat.reduceLeDiff, Nat.reduceLT, vAdd, vSub, vLt, vLe, vGt, vGe, vNeg, vEq, vNe, vEq2, vNe2, vMod, vDiv, vMul, vPow, Int.reduceToNat, vIx0, vIx1, vLenT, vLenC, vLenL, reduceIte, decide_true, decide_false, Bool.not_true, Bool.not_false, beq_self_eq_true, Bool.and_true, Bool.true_and, Bool.and_self, Bool.and_false, Bool.false_and]
    rfl
  · have l : (59 : Int) < (ks.length : Int) := by omega
    simp (disch := decide) only [m__law_step, p, h, hz, e1, e2, hw', eCallZ, lendR, whole_ok, eq_ref, ixh, decide_eq_false c, decide_eq_true l, List.length_cons, List.length_nil, List.map_cons, List.map_nil, if_true, x_seq, x_seq1, x_seq2, x_seq3, x_seq4, x_seq5, x_seq6, x_nil, x_if, x_if1, x_if2, x_if3, x_ret, x_ret1, x_ret2, x_ret3, x_retN, x_asg, x_asg1, x_asg2, x_asg3, x_asg4, x_asg5, x_gN, x_drop, x_drop1, x_drop2, x_bk, x_ct, x_raise, x_tZ, x_tZ1, x_tZ2, x_tE, x_tE1, x_tE2, x_tE3, x_tAnd, x_tAnd1, x_tAnd2, x_tAnd3, x_tOr, x_tOr1, x_tOr2, x_tOr3, x_tNot, x_tNot1, x_tNot2, x_tNot3, x_tTrue, x_z2, x_z21, x_z1, x_z11, x_zC, x_zC1, x_za, x_za1, x_za0, x_zV, x_zK, x_ch, x_ch1, x_ch2, x_eZ, x_eZ1, x_eZ2, x_eV, x_eV1, x_eM, x_eM1, x_b1, x_b2, x_b3, x_s1, x_s2, x_s3, x_oO, x_oO2, x_e2, x_e1, x_eC, x_aN, x_aC, x_tup, x_lst, x_call, x_oC1, x_oC2, x_call0, x_call01, x_eAnd, x_eAnd1, x_eOr, x_eOr1, x_eNot, x_eNot1, x_eIf, x_eIf1, x_fz_int, x_fr_int, x_fz_bl, x_fr_bl, x_fz_str, x_fr_str, x_fz_ty, x_fr_ty, x_fz_tup, x_fr_tup, x_fz_cst, x_fr_cst, x_fz_lst_false, x_fr_lst_false, x_fz_non, x_fr_non, x_fz_lt, x_fr_lt, x_fL0, x_fL1, x_cF, x_cR1, x_cR2, x_cR3, x_iL, x_iL1, x_iT, x_iT1, x_iS, x_iS1, x_iR1, x_iR11, x_iR2, x_iR21, x_iE, x_iE1, x_iV, x_iV1, x_iZ, x_iZ1, x_for, x_fo0, x_fo1, x_fo2, x_fo3, x_fo4, x_fo5, x_fo6, x_fo7, x_gT, x_gC, x_gC0, x_try, x_try1, x_try2, x_try3, x_try4, x_try5, x_nx1, x_nx2, x_try6, x_try7, x_nx3, x_nx4, x_app, x_app1, x_app2, x_lc, x_lcE, x_lc0, x_lc1, x_lcG, x_w0, x_w1, vMinL4, vMaxL4, vAll3, vAny3, vAll4, vAny4, x_wh1, x_wh2, x_wh0, x_abs, vI_ii, vI_ib, vI_it, vI_il, vI_is, vI_bb, vI_bi, vI_tt, vI_tl, vI_ti, vI_ll, vI_lt, vI_ss, vEqB, vNeB, x_ta, x_ta1, x_ta2, x_ta3, x_ta4, x_ta5, x_is, nc_0, nc_1, nc_2, nc_3, nc_4, nc_5, nc_6, nc_7, nc_8, nc_9, nc_10, nc_11, vMax2, vMin2, vIsN0, vIsN1, vNotN0, vNotN1, vIsN2, vNotN2, x_lo, x_lo1, x_lo2, vAll2, vAny2, x_sl, x_sl1, x_sl2, x_pn, x_ps, x_ps1, x_cutL, x_cutC, vEqS, vNeS, x_fz_obj, x_fr_obj, x_make, x_meth, x_meth2, x_meth3, x_isO, x_isO1, x_cat, x_cat1, x_methZ, x_methZ2, x_methZ3, x_callZ, x_callZ1, x_lend1, x_lend2, x_cl_int, x_cl_bl, x_cl_str, x_cl_non, x_cl_tup, x_cl0, x_cl1, x_cl_lst, x_setIx, x_setIx1, x_setIx2, x_callI, x_callI1, x_callI2, x_callI3, x_take0, x_take1, x_take2, x_put0, x_put1, x_cFI, x_cRI1, x_cRI2, x_outR, x_outR1, x_out1, x_out2, x_par, x_par1, x_sort, x_sort1, x_sort2, x_io2, x_io4, vIsB, x_pop, x_lr, x_lr1, x_clr, x_clr1, x_clrE, x_clrE1, x_pop1, x_pop2, x_ins, x_ins1, x_ins2, x_sk, x_sk1, x_sk2, x_sk3, x_ck, x_ck1, x_lk, x_lk1, x_iK, x_iK1, x_forB, x_fbD, x_fbR, x_fbR2, x_fzE, vInt1, vInt2, x_tupO, x_tupO1, x_tupO2, x_e2Z, x_e2Z1, x_appF, x_appF1, x_appF2, x_appF3, x_setF, x_setF1, x_setF2, x_setF3, x_setFd, x_setFd1, x_makeI, x_makeI1, x_methI, x_methI1, x_methI2, x_mz0, x_mz01, x_mz02, x_mz03, x_m0, x_m01, x_m02, x_m03, x_fz_objt, x_fr_objt, List.all_cons, List.all_nil, Option.isSome_some, Option.map_some, List.getD_cons_zero, List.getD_cons_succ, List.set_cons_zero, List.set_cons_succ, List.map_cons, List.map_nil, List.replicate_zero, List.replicate_succ, List.length_cons, List.length_nil, List.cons_append, List.nil_append, Option.bind_some, if_true, if_false, Bool.false_eq_true, Nat.reduceSub, Nat.reduceAdd, Nat.reduceLeDiff, Nat.reduceLT, vAdd, vSub, vLt, vLe, vGt, vGe, vNeg, vEq, vNe, vEq2, vNe2, vMod, vDiv, vMul, vPow, Int.reduceToNat, vIx0, vIx1, vLenT, vLenC, vLenL, reduceIte, decide_true, decide_false, Bool.not_true, Bool.not_false, beq_self_eq_true, Bool.and_true, Bool.true_and, Bool.and_self, Bool.and_false, Bool.false_and]
    rfl
theorem step_new {ks : List D} {hs : List Int} {n : D} {w : Int} (h : gInD false n (.lst true ks) = some (.bl false)) (hz : isFz n = true) (hw : f_weight_of [n, .lst false (hs.map D.int)] = .ok (.int w)) (hw' : f__law_weight [n, .lst false (hs.map D.int)] = .ok (.int w)) (h1 : w ≤ 16) (h2 : ks.length < 60) (h3 : hs.length < 1000) : f__law_step [ntD true ks hs, .lst true ks, .lst true (hs.map D.int), n] = .ok (.bl true) [ntD true (ks ++ [n]) (hs ++ [w]), .lst true (ks ++ [n]), .lst true ((hs ++ [w]).map D.int)] := by
  have p := law_put_ok (hs := hs) hz (put_new (hs := hs) h hz hw h1 h2 h3) rfl
  have e2 : freeze n = n := freeze_of hz
  have e1 : freeze (.lst true (hs.map D.int)) = .lst false (hs.map D.int) := by
    show D.lst false (freezeL (hs.map D.int)) = _
    rw [fz_map (fun _ => rfl) hs]
  have c : ¬ 16 < w := by omega
  have l : ¬ (59 : Int) < (ks.length : Int) := by omega
  have l1 : ks.length < 1000000 := by omega
  have l2 : (hs.map D.int).length < 1000000 := by rw [List.length_map]; omega
  have le : (((ks ++ [n]).length : Int) - 1) = (ks.length : Int) := by rw [List.length_append]; show ((ks.length + 1 : Nat) : Int) - 1 = _; omega
  unfold f__law_step callFI
  simp (disch := decide) only [m__law_step, p, h, hz, e1, e2, hw', eCallZ, lendR, whole_ok, eq_one, ixh, decide_eq_false c, decide_eq_false l, if_pos l1, if_pos l2, le, List.length_cons, List.length_nil, List.map_cons, List.map_nil, if_true, x_seq, x_seq1, x_seq2, x_seq3, x_seq4, x_seq5, x_seq6, x_nil, x_if, x_if1, x_if2, x_if3, x_ret, x_ret1, x_ret2, x_ret3, x_retN, x_asg, x_asg1, x_asg2, x_asg3, x_asg4, x_asg5, x_gN, x_drop, x_drop1, x_drop2, x_bk, x_ct, x_raise, x_tZ, x_tZ1, x_tZ2, x_tE, x_tE1, x_tE2, x_tE3, x_tAnd, x_tAnd1, x_tAnd2, x_tAnd3, x_tOr, x_tOr1, x_tOr2, x_tOr3, x_tNot, x_tNot1, x_tNot2, x_tNot3, x_tTrue, x_z2, x_z21, x_z1, x_z11, x_zC, x_zC1, x_za, x_za1, x_za0, x_zV, x_zK, x_ch, x_ch1, x_ch2, x_eZ, x_eZ1, x_eZ2, x_eV, x_eV1, x_eM, x_eM1, x_b1, x_b2, x_b3, x_s1, x_s2, x_s3, x_oO, x_oO2, x_e2, x_e1, x_eC, x_aN, x_aC, x_tup, x_lst, x_call, x_oC1, x_oC2, x_call0, x_call01, x_eAnd, x_eAnd1, x_eOr, x_eOr1, x_eNot, x_eNot1, x_eIf, x_eIf1, x_fz_int, x_fr_int, x_fz_bl, x_fr_bl, x_fz_str, x_fr_str, x_fz_ty, x_fr_ty, x_fz_tup, x_fr_tup, x_fz_cst, x_fr_cst, x_fz_lst_false, x_fr_lst_false, x_fz_non, x_fr_non, x_fz_lt, x_fr_lt, x_fL0, x_fL1, x_cF, x_cR1, x_cR2, x_cR3, x_iL, x_iL1, x_iT, x_iT1, x_iS, x_iS1, x_iR1, x_iR11, x_iR2, x_iR21, x_iE, x_iE1, x_iV, x_iV1, x_iZ, x_iZ1, x_for, x_fo0, x_fo1, x_fo2, x_fo3, x_fo4, x_fo5, x_fo6, x_fo7, x_gT, x_gC, x_gC0, x_try, x_try1, x_try2, x_try3, x_try4, x_try5, x_nx1, x_nx2, x_try6, x_try7, x_nx3, x_nx4, x_app, x_app1, x_app2, x_lc, x_lcE, x_lc0, x_lc1, x_lcG, x_w0, x_w1, vMinL4, vMaxL4, vAll3, vAny3, vAll4, vAny4, x_wh1, x_wh2, x_wh0, x_abs, vI_ii, vI_ib, vI_it, vI_il, vI_is, vI_bb, vI_bi, vI_tt, vI_tl, vI_ti, vI_ll, vI_lt, vI_ss, vEqB, vNeB, x_ta, x_ta1, x_ta2, x_ta3, x_ta4, x_ta5, x_is, nc_0, nc_1, nc_2, nc_3, nc_4, nc_5, nc_6, nc_7, nc_8, nc_9, nc_10, nc_11, vMax2, vMin2, vIsN0, vIsN1, vNotN0, vNotN1, vIsN2, vNotN2, x_lo, x_lo1, x_lo2, vAll2, vAny2, x_sl, x_sl1, x_sl2, x_pn, x_ps, x_ps1, x_cutL, x_cutC, vEqS, vNeS, x_fz_obj, x_fr_obj, x_make, x_meth, x_meth2, x_meth3, x_isO, x_isO1, x_cat, x_cat1, x_methZ, x_methZ2, x_methZ3, x_callZ, x_callZ1, x_lend1, x_lend2, x_cl_int, x_cl_bl, x_cl_str, x_cl_non, x_cl_tup, x_cl0, x_cl1, x_cl_lst, x_setIx, x_setIx1, x_setIx2, x_callI, x_callI1, x_callI2, x_callI3, x_take0, x_take1, x_take2, x_put0, x_put1, x_cFI, x_cRI1, x_cRI2, x_outR, x_outR1, x_out1, x_out2, x_par, x_par1, x_sort, x_sort1, x_sort2, x_io2, x_io4, vIsB, x_pop, x_lr, x_lr1, x_clr, x_clr1, x_clrE, x_clrE1, x_pop1, x_pop2, x_ins, x_ins1, x_ins2, x_sk, x_sk1, x_sk2, x_sk3, x_ck, x_ck1, x_lk, x_lk1, x_iK, x_iK1, x_forB, x_fbD, x_fbR, x_fbR2, x_fzE, vInt1, vInt2, x_tupO, x_tupO1, x_tupO2, x_e2Z, x_e2Z1, x_appF, x_appF1, x_appF2, x_appF3, x_setF, x_setF1, x_setF2, x_setF3, x_setFd, x_setFd1, x_makeI, x_makeI1, x_methI, x_methI1, x_methI2, x_mz0, x_mz01, x_mz02, x_mz03, x_m0, x_m01, x_m02, x_m03, x_fz_objt, x_fr_objt, List.all_cons, List.all_nil, Option.isSome_some, Option.map_some, List.getD_cons_zero, List.getD_cons_succ, List.set_cons_zero, List.set_cons_succ, List.map_cons, List.map_nil, List.replicate_zero, List.replicate_succ, List.length_cons, List.length_nil, List.cons_append, List.nil_append, Option.bind_some, if_true, if_false, Bool.false_eq_true, Nat.reduceSub, Nat.reduceAdd, Nat.reduceLeDiff, Nat.reduceLT, vAdd, vSub, vLt, vLe, vGt, vGe, vNeg, vEq, vNe, vEq2, vNe2, vMod, vDiv, vMul, vPow, Int.reduceToNat, vIx0, vIx1, vLenT, vLenC, vLenL, reduceIte, decide_true, decide_false, Bool.not_true, Bool.not_false, beq_self_eq_true, Bool.and_true, Bool.true_and, Bool.and_self, Bool.and_false, Bool.false_and]
  rw [List.map_append]; rfl
theorem dvm {x : Int} {m : Nat} (h : 0 < m) (h2 : m ≤ 100) : gDiv (.int x) (.int (m : Int)) = some (.int (x / (m : Int))) := vDiv (by omega) (by
  rw [Int.natAbs_natCast]
  exact Nat.lt_of_le_of_lt (Nat.log2_le_self m) (by omega))
theorem mdm {x : Int} {m : Nat} (h : 0 < m) : gMod (.int x) (.int (m : Int)) = some (.int (x % (m : Int))) := vMod (by omega)
theorem bt {a b : Int} (h : a = b) : (a == b) = true := beq_iff_eq.mpr h
theorem bf {a b : Int} (h : ¬ a = b) : (a == b) = false := by simpa using h
theorem nk_ok1 {m : Nat} {t b : Int} : (Nk.num t b).Ok m := ⟨fun _ _ e => (by cases e), fun _ _ _ e => by cases e⟩
theorem nk_ok2 {m : Nat} {k : Int} : (Nk.unk k).Ok m := ⟨fun _ _ e => (by cases e), fun _ _ _ e => by cases e⟩
theorem nk_ok3 {m i : Nat} {k : Int} (h : i < m) (h1 : 2 ≤ k) (h2 : k ≤ 6) : (Nk.pow i k).Ok m := ⟨fun _ _ e => by cases e; exact ⟨h, h1, h2⟩, fun _ _ _ e => by cases e⟩
theorem nk_ok4 {m i j : Nat} {w : PySem.Str} (hw : w = "plus" ∨ w = "minus" ∨ w = "times") (h : i < m) (h1 : j < m) : (Nk.two w i j).Ok m := ⟨fun _ _ e => (by cases e), fun _ _ _ e => by cases e; exact ⟨hw, h, h1⟩⟩
theorem w3_0 : gIx (.lst true [.str "plus", .str "minus", .str "times"]) (.int 0) = some (.str "plus") := vIxL_of (k := 0) rfl rfl
theorem w3_1 : gIx (.lst true [.str "plus", .str "minus", .str "times"]) (.int 1) = some (.str "minus") := vIxL_of (k := 1) rfl rfl
theorem w3_2 : gIx (.lst true [.str "plus", .str "minus", .str "times"]) (.int 2) = some (.str "times") := vIxL_of (k := 2) rfl rfl
theorem node_ok {c : Int} {m : Nat} (c0 : 0 ≤ c) (c1 : c < 1000000000) (hm : m ≤ 100) : ∃ x : Nk, f__law_node [.int c, .int (m : Int)] = .ok x.d ∧ x.Ok m := by
  by_cases hA : (m : Int) = 0 ∨ c % 8 = 0
  · refine ⟨.num ((1 + c / 8 % 4) * (c / 32 % 2001 - 1000) + 1) (1 + c / 8 % 4), ?_, nk_ok1⟩
    have mm : gMulA (.int (1 + c / 8 % 4)) (.int (c / 32 % 2001 - 1000)) = some (.int ((1 + c / 8 % 4) * (c / 32 % 2001 - 1000))) := if_pos (show CMulA _ _ from .inr (.inl ⟨by omega, by omega⟩))
    by_cases h0 : (m : Int) = 0
    · simp (disch := decide) only [f__law_node, m__law_node, bt h0, if_true, mm, Nk.d, x_seq, x_seq1, x_seq2, x_seq3, x_seq4, x_seq5, x_seq6, x_nil, x_if, x_if1, x_if2, x_if3, x_ret, x_ret1, x_ret2, x_ret3, x_retN, x_asg, x_asg1, x_asg2, x_asg3, x_asg4, x_asg5, x_gN, x_drop, x_drop1, x_drop2, x_bk, x_ct, x_raise, x_tZ, x_tZ1, x_tZ2, x_tE, x_tE1, x_tE2, x_tE3, x_tAnd, x_tAnd1, x_tAnd2, x_tAnd3, x_tOr, x_tOr1, x_tOr2, x_tOr3, x_tNot, x_tNot1, x_tNot2, x_tNot3, x_tTrue, x_z2, x_z21, x_z1, x_z11, x_zC, x_zC1, x_za, x_za1, x_za0, x_zV, x_zK, x_ch, x_ch1, x_ch2, x_eZ, x_eZ1, x_eZ2, x_eV, x_eV1, x_eM, x_eM1, x_b1, x_b2, x_b3, x_s1, x_s2, x_s3, x_oO, x_oO2, x_e2, x_e1, x_eC, x_aN, x_aC, x_tup, x_lst, x_call, x_oC1, x_oC2, x_call0, x_call01, x_eAnd, x_eAnd1, x_eOr, x_eOr1, x_eNot, x_eNot1, x_eIf, x_eIf1, x_fz_int, x_fr_int, x_fz_bl, x_fr_bl, x_fz_str, x_fr_str, x_fz_ty, x_fr_ty, x_fz_tup, x_fr_tup, x_fz_cst, x_fr_cst, x_fz_lst_false, x_fr_lst_false, x_fz_non, x_fr_non, x_fz_lt, x_fr_lt, x_fL0, x_fL1, x_cF, x_cR1, x_cR2, x_cR3, x_iL, x_iL1, x_iT, x_iT1, x_iS, x_iS1, x_iR1, x_iR11, x_iR2, x_iR21, x_iE, x_iE1, x_iV, x_iV1, x_iZ, x_iZ1, x_for, x_fo0, x_fo1, x_fo2, x_fo3, x_fo4, x_fo5, x_fo6, x_fo7, x_gT, x_gC, x_gC0, x_try, x_try1, x_try2, x_try3, x_try4, x_try5, x_nx1, x_nx2, x_try6, x_try7, x_nx3, x_nx4, x_app, x_app1, x_app2, x_lc, x_lcE, x_lc0, x_lc1, x_lcG, x_w0, x_w1, vMinL4, vMaxL4, vAll3, vAny3, vAll4, vAny4, x_wh1, x_wh2, x_wh0, x_abs, vI_ii, vI_ib, vI_it, vI_il, vI_is, vI_bb, vI_bi, vI_tt, vI_tl, vI_ti, vI_ll, vI_lt, vI_ss, vEqB, vNeB, x_ta, x_ta1, x_ta2, x_ta3, x_ta4, x_ta5, x_is, nc_0, nc_1, nc_2, nc_3, nc_4, nc_5, nc_6, nc_7, nc_8, nc_9, nc_10, nc_11, vMax2, vMin2, vIsN0, vIsN1, vNotN0, vNotN1, vIsN2, vNotN2, x_lo, x_lo1, x_lo2, vAll2, vAny2, x_sl, x_sl1, x_sl2, x_pn, x_ps, x_ps1, x_cutL, x_cutC, vEqS, vNeS, x_fz_obj, x_fr_obj, x_make, x_meth, x_meth2, x_meth3, x_isO, x_isO1, x_cat, x_cat1, x_methZ, x_methZ2, x_methZ3, x_callZ, x_callZ1, x_lend1, x_lend2, x_cl_int, x_cl_bl, x_cl_str, x_cl_non, x_cl_tup, x_cl0, x_cl1, x_cl_lst, x_setIx, x_setIx1, x_setIx2, x_callI, x_callI1, x_callI2, x_callI3, x_take0, x_take1, x_take2, x_put0, x_put1, x_cFI, x_cRI1, x_cRI2, x_outR, x_outR1, x_out1, x_out2, x_par, x_par1, x_sort, x_sort1, x_sort2, x_io2, x_io4, vIsB, x_pop, x_lr, x_lr1, x_clr, x_clr1, x_clrE, x_clrE1, x_pop1, x_pop2, x_ins, x_ins1, x_ins2, x_sk, x_sk1, x_sk2, x_sk3, x_ck, x_ck1, x_lk, x_lk1, x_iK, x_iK1, x_forB, x_fbD, x_fbR, x_fbR2, x_fzE, vInt1, vInt2, x_tupO, x_tupO1, x_tupO2, x_e2Z, x_e2Z1, x_appF, x_appF1, x_appF2, x_appF3, x_setF, x_setF1, x_setF2, x_setF3, x_setFd, x_setFd1, x_makeI, x_makeI1, x_methI, x_methI1, x_methI2, x_mz0, x_mz01, x_mz02, x_mz03, x_m0, x_m01, x_m02, x_m03, x_fz_objt, x_fr_objt, List.all_cons, List.all_nil, Option.isSome_some, Option.map_some, List.getD_cons_zero, List.getD_cons_succ, List.set_cons_zero, List.set_cons_succ, List.map_cons, List.map_nil, List.replicate_zero, List.replicate_succ, List.length_cons, List.length_nil, List.cons_append, List.nil_append, Option.bind_some, if_true, if_false, Bool.false_eq_true, Nat.reduceSub, Nat.reduceAdd, Nat.reduceLeDiff, Nat.reduceLT, vAdd, vSub, vLt, vLe, vGt, vGe, vNeg, vEq, vNe, vEq2, vNe2, vMod, vDiv, vMul, vPow, Int.reduceToNat, vIx0, vIx1, vLenT, vLenC, vLenL, reduceIte, decide_true, decide_false, Bool.not_true, Bool.not_false, beq_self_eq_true, Bool.and_true, Bool.true_and, Bool.and_self, Bool.and_false, Bool.false_and]
      done
    · have h8 := hA.resolve_left h0
      simp (disch := decide) only [f__law_node, m__law_node, bf h0, bt h8, if_true, mm, Nk.d, x_seq, x_seq1, x_seq2, x_seq3, x_seq4, x_seq5, x_seq6, x_nil, x_if, x_if1, x_if2, x_if3, x_ret, x_ret1, x_ret2, x_ret3, x_retN, x_asg, x_asg1, x_asg2, x_asg3, x_asg4, x_asg5, x_gN, x_drop, x_drop1, x_drop2, x_bk, x_ct, x_raise, x_tZ, x_tZ1, x_tZ2, x_tE, x_tE1, x_tE2, x_tE3, x_tAnd, x_tAnd1, x_tAnd2, x_tAnd3, x_tOr, x_tOr1, x_tOr2, x_tOr3, x_tNot, x_tNot1, x_tNot2, x_tNot3, x_tTrue, x_z2, x_z21, x_z1, x_z11, x_zC, x_zC1, x_za, x_za1, x_za0, x_zV, x_zK, x_ch, x_ch1, x_ch2, x_eZ, x_eZ1, x_eZ2, x_eV, x_eV1, x_eM, x_eM1, x_b1, x_b2, x_b3, x_s1, x_s2, x_s3, x_oO, x_oO2, x_e2, x_e1, x_eC, x_aN, x_aC, x_tup, x_lst, x_call, x_oC1, x_oC2, x_call0, x_call01, x_eAnd, x_eAnd1, x_eOr, x_eOr1, x_eNot, x_eNot1, x_eIf, x_eIf1, x_fz_int, x_fr_int, x_fz_bl, x_fr_bl, x_fz_str, x_fr_str, x_fz_ty, x_fr_ty, x_fz_tup, x_fr_tup, x_fz_cst, x_fr_cst, x_fz_lst_false, x_fr_lst_false, x_fz_non, x_fr_non, x_fz_lt, x_fr_lt, x_fL0, x_fL1, x_cF, x_cR1, x_cR2, x_cR3, x_iL, x_iL1, x_iT, x_iT1, x_iS, x_iS1, x_iR1, x_iR11, x_iR2, x_iR21, x_iE, x_iE1, x_iV, x_iV1, x_iZ, x_iZ1, x_for, x_fo0, x_fo1, x_fo2, x_fo3, x_fo4, x_fo5, x_fo6, x_fo7, x_gT, x_gC, x_gC0, x_try, x_try1, x_try2, x_try3, x_try4, x_try5, x_nx1, x_nx2, x_try6, x_try7, x_nx3, x_nx4, x_app, x_app1, x_app2, x_lc, x_lcE, x_lc0, x_lc1, x_lcG, x_w0, x_w1, vMinL4, vMaxL4, vAll3, vAny3, vAll4, vAny4, x_wh1, x_wh2, x_wh0, x_abs, vI_ii, vI_ib, vI_it, vI_il, vI_is, vI_bb, vI_bi, vI_tt, vI_tl, vI_ti, vI_ll, vI_lt, vI_ss, vEqB, vNeB, x_ta, x_ta1, x_ta2, x_ta3, x_ta4, x_ta5, x_is, nc_0, nc_1, nc_2, nc_3, nc_4, nc_5, nc_6, nc_7, nc_8, nc_9, nc_10, nc_11, vMax2, vMin2, vIsN0, vIsN1, vNotN0, vNotN1, vIsN2, vNotN2, x_lo, x_lo1, x_lo2, vAll2, vAny2, x_sl, x_sl1, x_sl2, x_pn, x_ps, x_ps1, x_cutL, x_cutC, vEqS, vNeS, x_fz_obj, x_fr_obj, x_make, x_meth, x_meth2, x_meth3, x_isO, x_isO1, x_cat, x_cat1, x_methZ, x_methZ2, x_methZ3, x_callZ, x_callZ1, x_lend1, x_lend2, x_cl_int, x_cl_bl, x_cl_str, x_cl_non, x_cl_tup, x_cl0, x_cl1, x_cl_lst, x_setIx, x_setIx1, x_setIx2, x_callI, x_callI1, x_callI2, x_callI3, x_take0, x_take1, x_take2, x_put0, x_put1, x_cFI, x_cRI1, x_cRI2, x_outR, x_outR1, x_out1, x_out2, x_par, x_par1, x_sort, x_sort1, x_sort2, x_io2, x_io4, vIsB, x_pop, x_lr, x_lr1, x_clr, x_clr1, x_clrE, x_clrE1, x_pop1, x_pop2, x_ins, x_ins1, x_ins2, x_sk, x_sk1, x_sk2, x_sk3, x_ck, x_ck1, x_lk, x_lk1, x_iK, x_iK1, x_forB, x_fbD, x_fbR, x_fbR2, x_fzE, vInt1, vInt2, x_tupO, x_tupO1, x_tupO2, x_e2Z, x_e2Z1, x_appF, x_appF1, x_appF2, x_appF3, x_setF, x_setF1, x_setF2, x_setF3, x_setFd, x_setFd1, x_makeI, x_makeI1, x_methI, x_methI1, x_methI2, x_mz0, x_mz01, x_mz02, x_mz03, x_m0, x_m01, x_m02, x_m03, x_fz_objt, x_fr_objt, List.all_cons, List.all_nil, Option.isSome_some, Option.map_some, List.getD_cons_zero, List.getD_cons_succ, List.set_cons_zero, List.set_cons_succ, List.map_cons, List.map_nil, List.replicate_zero, List.replicate_succ, List.length_cons, List.length_nil, List.cons_append, List.nil_append, Option.bind_some, if_true, if_false, Bool.false_eq_true, Nat.reduceSub, Nat.reduceAdd, Nat.reduceLeDiff, Nat.reduceLT, vAdd, vSub, vLt, vLe, vGt, vGe, vNeg, vEq, vNe, vEq2, vNe2, vMod, vDiv, vMul, vPow, Int.reduceToNat, vIx0, vIx1, vLenT, vLenC, vLenL, reduceIte, decide_true, decide_false, Bool.not_true, Bool.not_false, beq_self_eq_true, Bool.and_true, Bool.true_and, Bool.and_self, Bool.and_false, Bool.false_and]
      done
  · have h0 : ¬ (m : Int) = 0 := fun h => hA (.inl h)
    have h8 : ¬ c % 8 = 0 := fun h => hA (.inr h)
    have mp : 0 < m := by omega
    by_cases h1 : c % 8 = 1
    · refine ⟨.unk (c / 8 % 5), ?_, nk_ok2⟩
      simp (disch := decide) only [f__law_node, m__law_node, bf h0, bf h8, bt h1, if_true, Nk.d, x_seq, x_seq1, x_seq2, x_seq3, x_seq4, x_seq5, x_seq6, x_nil, x_if, x_if1, x_if2, x_if3, x_ret, x_ret1, x_ret2, x_ret3, x_retN, x_asg, x_asg1, x_asg2, x_asg3, x_asg4, x_asg5, x_gN, x_drop, x_drop1, x_drop2, x_bk, x_ct, x_raise, x_tZ, x_tZ1, x_tZ2, x_tE, x_tE1, x_tE2, x_tE3, x_tAnd, x_tAnd1, x_tAnd2, x_tAnd3, x_tOr, x_tOr1, x_tOr2, x_tOr3, x_tNot, x_tNot1, x_tNot2, x_tNot3, x_tTrue, x_z2, x_z21, x_z1, x_z11, x_zC, x_zC1, x_za, x_za1, x_za0, x_zV, x_zK, x_ch, x_ch1, x_ch2, x_eZ, x_eZ1, x_eZ2, x_eV, x_eV1, x_eM, x_eM1, x_b1, x_b2, x_b3, x_s1, x_s2, x_s3, x_oO, x_oO2, x_e2, x_e1, x_eC, x_aN, x_aC, x_tup, x_lst, x_call, x_oC1, x_oC2, x_call0, x_call01, x_eAnd, x_eAnd1, x_eOr, x_eOr1, x_eNot, x_eNot1, x_eIf, x_eIf1, x_fz_int, x_fr_int, x_fz_bl, x_fr_bl, x_fz_str, x_fr_str, x_fz_ty, x_fr_ty, x_fz_tup, x_fr_tup, x_fz_cst, x_fr_cst, x_fz_lst_false, x_fr_lst_false, x_fz_non, x_fr_non, x_fz_lt, x_fr_lt, x_fL0, x_fL1, x_cF, x_cR1, x_cR2, x_cR3, x_iL, x_iL1, x_iT, x_iT1, x_iS, x_iS1, x_iR1, x_iR11, x_iR2, x_iR21, x_iE, x_iE1, x_iV, x_iV1, x_iZ, x_iZ1, x_for, x_fo0, x_fo1, x_fo2, x_fo3, x_fo4, x_fo5, x_fo6, x_fo7, x_gT, x_gC, x_gC0, x_try, x_try1, x_try2, x_try3, x_try4, x_try5, x_nx1, x_nx2, x_try6, x_try7, x_nx3, x_nx4, x_app, x_app1, x_app2, x_lc, x_lcE, x_lc0, x_lc1, x_lcG, x_w0, x_w1, vMinL4, vMaxL4, vAll3, vAny3, vAll4, vAny4, x_wh1, x_wh2, x_wh0, x_abs, vI_ii, vI_ib, vI_it, vI_il, vI_is, vI_bb, vI_bi, vI_tt, vI_tl, vI_ti, vI_ll, vI_lt, vI_ss, vEqB, vNeB, x_ta, x_ta1, x_ta2, x_ta3, x_ta4, x_ta5, x_is, nc_0, nc_1, nc_2, nc_3, nc_4, nc_5, nc_6, nc_7, nc_8, nc_9, nc_10, nc_11, vMax2, vMin2, vIsN0, vIsN1, vNotN0, vNotN1, vIsN2, vNotN2, x_lo, x_lo1, x_lo2, vAll2, vAny2, x_sl, x_sl1, x_sl2, x_pn, x_ps, x_ps1, x_cutL, x_cutC, vEqS, vNeS, x_fz_obj, x_fr_obj, x_make, x_meth, x_meth2, x_meth3, x_isO, x_isO1, x_cat, x_cat1, x_methZ, x_methZ2, x_methZ3, x_callZ, x_callZ1, x_lend1, x_lend2, x_cl_int, x_cl_bl, x_cl_str, x_cl_non, x_cl_tup, x_cl0, x_cl1, x_cl_lst, x_setIx, x_setIx1, x_setIx2, x_callI, x_callI1, x_callI2, x_callI3, x_take0, x_take1, x_take2, x_put0, x_put1, x_cFI, x_cRI1, x_cRI2, x_outR, x_outR1, x_out1, x_out2, x_par, x_par1, x_sort, x_sort1, x_sort2, x_io2, x_io4, vIsB, x_pop, x_lr, x_lr1, x_clr, x_clr1, x_clrE, x_clrE1, x_pop1, x_pop2, x_ins, x_ins1, x_ins2, x_sk, x_sk1, x_sk2, x_sk3, x_ck, x_ck1, x_lk, x_lk1, x_iK, x_iK1, x_forB, x_fbD, x_fbR, x_fbR2, x_fzE, vInt1, vInt2, x_tupO, x_tupO1, x_tupO2, x_e2Z, x_e2Z1, x_appF, x_appF1, x_appF2, x_appF3, x_setF, x_setF1, x_setF2, x_setF3, x_setFd, x_setFd1, x_makeI, x_makeI1, x_methI, x_methI1, x_methI2, x_mz0, x_mz01, x_mz02, x_mz03, x_m0, x_m01, x_m02, x_m03, x_fz_objt, x_fr_objt, List.all_cons, List.all_nil, Option.isSome_some, Option.map_some, List.getD_cons_zero, List.getD_cons_succ, List.set_cons_zero, List.set_cons_succ, List.map_cons, List.map_nil, List.replicate_zero, List.replicate_succ, List.length_cons, List.length_nil, List.cons_append, List.nil_append, Option.bind_some, if_true, if_false, Bool.false_eq_true, Nat.reduceSub, Nat.reduceAdd, Nat.reduceLeDiff, Nat.reduceLT, vAdd, vSub, vLt, vLe, vGt, vGe, vNeg, vEq, vNe, vEq2, vNe2, vMod, vDiv, vMul, vPow, Int.reduceToNat, vIx0, vIx1, vLenT, vLenC, vLenL, reduceIte, decide_true, decide_false, Bool.not_true, Bool.not_false, beq_self_eq_true, Bool.and_true, Bool.true_and, Bool.and_self, Bool.and_false, Bool.false_and]
      done
    · have q0 : 0 ≤ c / 8 % (m : Int) := Int.emod_nonneg _ (by omega)
      have q1 : c / 8 % (m : Int) < m := Int.emod_lt_of_pos _ (by omega)
      have r0 : 0 ≤ c / 8 / (m : Int) % (m : Int) := Int.emod_nonneg _ (by omega)
      have r1 : c / 8 / (m : Int) % (m : Int) < m := Int.emod_lt_of_pos _ (by omega)
      have eq : ((c / 8 % (m : Int)).toNat : Int) = c / 8 % (m : Int) := by omega
      have er : ((c / 8 / (m : Int) % (m : Int)).toNat : Int) = c / 8 / (m : Int) % (m : Int) := by omega
      by_cases h2 : c % 8 = 2
      · refine ⟨.pow (c / 8 % (m : Int)).toNat (2 + c / 8 / (m : Int) % 5), ?_, nk_ok3 (by omega) (by omega) (by omega)⟩
        simp (disch := decide) only [f__law_node, m__law_node, bf h0, bf h8, bf h1, bt h2, mdm mp, dvm mp hm, if_true, Nk.d, eq, x_seq, x_seq1, x_seq2, x_seq3, x_seq4, x_seq5, x_seq6, x_nil, x_if, x_if1, x_if2, x_if3, x_ret, x_ret1, x_ret2, x_ret3, x_retN, x_asg, x_asg1, x_asg2, x_asg3, x_asg4, x_asg5, x_gN, x_drop, x_drop1, x_drop2, x_bk, x_ct, x_raise, x_tZ, x_tZ1, x_tZ2, x_tE, x_tE1, x_tE2, x_tE3, x_tAnd, x_tAnd1, x_tAnd2, x_tAnd3, x_tOr, x_tOr1, x_tOr2, x_tOr3, x_tNot, x_tNot1, x_tNot2, x_tNot3, x_tTrue, x_z2, x_z21, x_z1, x_z11, x_zC, x_zC1, x_za, x_za1, x_za0, x_zV, x_zK, x_ch, x_ch1, x_ch2, x_eZ, x_eZ1, x_eZ2, x_eV, x_eV1, x_eM, x_eM1, x_b1, x_b2, x_b3, x_s1, x_s2, x_s3, x_oO, x_oO2, x_e2, x_e1, x_eC, x_aN, x_aC, x_tup, x_lst, x_call, x_oC1, x_oC2, x_call0, x_call01, x_eAnd, x_eAnd1, x_eOr, x_eOr1, x_eNot, x_eNot1, x_eIf, x_eIf1, x_fz_int, x_fr_int, x_fz_bl, x_fr_bl, x_fz_str, x_fr_str, x_fz_ty, x_fr_ty, x_fz_tup, x_fr_tup, x_fz_cst, x_fr_cst, x_fz_lst_false, x_fr_lst_false, x_fz_non, x_fr_non, x_fz_lt, x_fr_lt, x_fL0, x_fL1, x_cF, x_cR1, x_cR2, x_cR3, x_iL, x_iL1, x_iT, x_iT1, x_iS, x_iS1, x_iR1, x_iR11, x_iR2, x_iR21, x_iE, x_iE1, x_iV, x_iV1, x_iZ, x_iZ1, x_for, x_fo0, x_fo1, x_fo2, x_fo3, x_fo4, x_fo5, x_fo6, x_fo7, x_gT, x_gC, x_gC0, x_try, x_try1, x_try2, x_try3, x_try4, x_try5, x_nx1, x_nx2, x_try6, x_try7, x_nx3, x_nx4, x_app, x_app1, x_app2, x_lc, x_lcE, x_lc0, x_lc1, x_lcG, x_w0, x_w1, vMinL4, vMaxL4, vAll3, vAny3, vAll4, vAny4, x_wh1, x_wh2, x_wh0, x_abs, vI_ii, vI_ib, vI_it, vI_il, vI_is, vI_bb, vI_bi, vI_tt, vI_tl, vI_ti, vI_ll, vI_lt, vI_ss, vEqB, vNeB, x_ta, x_ta1, x_ta2, x_ta3, x_ta4, x_ta5, x_is, nc_0, nc_1, nc_2, nc_3, nc_4, nc_5, nc_6, nc_7, nc_8, nc_9, nc_10, nc_11, vMax2, vMin2, vIsN0, vIsN1, vNotN0, vNotN1, vIsN2, vNotN2, x_lo, x_lo1, x_lo2, vAll2, vAny2, x_sl, x_sl1, x_sl2, x_pn, x_ps, x_ps1, x_cutL, x_cutC, vEqS, vNeS, x_fz_obj, x_fr_obj, x_make, x_meth, x_meth2, x_meth3, x_isO, x_isO1, x_cat, x_cat1, x_methZ, x_methZ2, x_methZ3, x_callZ, x_callZ1, x_lend1, x_lend2, x_cl_int, x_cl_bl, x_cl_str, x_cl_non, x_cl_tup, x_cl0, x_cl1, x_cl_lst, x_setIx, x_setIx1, x_setIx2, x_callI, x_callI1, x_callI2, x_callI3, x_take0, x_take1, x_take2, x_put0, x_put1, x_cFI, x_cRI1, x_cRI2, x_outR, x_outR1, x_out1, x_out2, x_par, x_par1, x_sort, x_sort1, x_sort2, x_io2, x_io4, vIsB, x_pop, x_lr, x_lr1, x_clr, x_clr1, x_clrE, x_clrE1, x_pop1, x_pop2, x_ins, x_ins1, x_ins2, x_sk, x_sk1, x_sk2, x_sk3, x_ck, x_ck1, x_lk, x_lk1, x_iK, x_iK1, x_forB, x_fbD, x_fbR, x_fbR2, x_fzE, vInt1, vInt2, x_tupO, x_tupO1, x_tupO2, x_e2Z, x_e2Z1, x_appF, x_appF1, x_appF2, x_appF3, x_setF, x_setF1, x_setF2, x_setF3, x_setFd, x_setFd1, x_makeI, x_makeI1, x_methI, x_methI1, x_methI2, x_mz0, x_mz01, x_mz02, x_mz03, x_m0, x_m01, x_m02, x_m03, x_fz_objt, x_fr_objt, List.all_cons, List.all_nil, Option.isSome_some, Option.map_some, List.getD_cons_zero, List.getD_cons_succ, List.set_cons_zero, List.set_cons_succ, List.map_cons, List.map_nil, List.replicate_zero, List.replicate_succ, List.length_cons, List.length_nil, List.cons_append, List.nil_append, Option.bind_some, if_true, if_false, Bool.false_eq_true, Nat.reduceSub, Nat.reduceAdd, Nat.reduceLeDiff, Nat.reduceLT, vAdd, vSub, vLt, vLe, vGt, vGe, vNeg, vEq, vNe, vEq2, vNe2, vMod, vDiv, vMul, vPow, Int.reduceToNat, vIx0, vIx1, vLenT, vLenC, vLenL, reduceIte, decide_true, decide_false, Bool.not_true, Bool.not_false, beq_self_eq_true, Bool.and_true, Bool.true_and, Bool.and_self, Bool.and_false, Bool.false_and]
        done
      · rcases (by omega : c % 8 = 3 ∨ c % 8 = 4 ∨ c % 8 = 5 ∨ c % 8 = 6 ∨ c % 8 = 7) with h | h | h | h | h
        · have e3 : c % 8 % 3 = 0 := by omega
          have h7 : ¬ c % 8 = 7 := by omega
          refine ⟨.two "plus" (c / 8 % (m : Int)).toNat (c / 8 / (m : Int) % (m : Int)).toNat, ?_, nk_ok4 (.inl rfl) (by omega) (by omega)⟩
          simp (disch := decide) only [f__law_node, m__law_node, bf h0, bf h8, bf h1, bf h2, bf h7, e3, w3_0, mdm mp, dvm mp hm, if_true, Nk.d, eq, er, x_seq, x_seq1, x_seq2, x_seq3, x_seq4, x_seq5, x_seq6, x_nil, x_if, x_if1, x_if2, x_if3, x_ret, x_ret1, x_ret2, x_ret3, x_retN, x_asg, x_asg1, x_asg2, x_asg3, x_asg4, x_asg5, x_gN, x_drop, x_drop1, x_drop2, x_bk, x_ct, x_raise, x_tZ, x_tZ1, x_tZ2, x_tE, x_tE1, x_tE2, x_tE3, x_tAnd, x_tAnd1, x_tAnd2, x_tAnd3, x_tOr, x_tOr1, x_tOr2, x_tOr3, x_tNot, x_tNot1, x_tNot2, x_tNot3, x_tTrue, x_z2, x_z21, x_z1, x_z11, x_zC, x_zC1, x_za, x_za1, x_za0, x_zV, x_zK, x_ch, x_ch1, x_ch2, x_eZ, x_eZ1, x_eZ2, x_eV, x_eV1, x_eM, x_eM1, x_b1, x_b2, x_b3, x_s1, x_s2, x_s3, x_oO, x_oO2, x_e2, x_e1, x_eC, x_aN, x_aC, x_tup, x_lst, x_call, x_oC1, x_oC2, x_call0, x_call01, x_eAnd, x_eAnd1, x_eOr, x_eOr1, x_eNot, x_eNot1, x_eIf, x_eIf1, x_fz_int, x_fr_int, x_fz_bl, x_fr_bl, x_fz_str, x_fr_str, x_fz_ty, x_fr_ty, x_fz_tup, x_fr_tup, x_fz_cst, x_fr_cst, x_fz_lst_false, x_fr_lst_false, x_fz_non, x_fr_non, x_fz_lt, x_fr_lt, x_fL0, x_fL1, x_cF, x_cR1, x_cR2, x_cR3, x_iL, x_iL1, x_iT, x_iT1, x_iS, x_iS1, x_iR1, x_iR11, x_iR2, x_iR21, x_iE, x_iE1, x_iV, x_iV1, x_iZ, x_iZ1, x_for, x_fo0, x_fo1, x_fo2, x_fo3, x_fo4, x_fo5, x_fo6, x_fo7, x_gT, x_gC, x_gC0, x_try, x_try1, x_try2, x_try3, x_try4, x_try5, x_nx1, x_nx2, x_try6, x_try7, x_nx3, x_nx4, x_app, x_app1, x_app2, x_lc, x_lcE, x_lc0, x_lc1, x_lcG, x_w0, x_w1, vMinL4, vMaxL4, vAll3, vAny3, vAll4, vAny4, x_wh1, x_wh2, x_wh0, x_abs, vI_ii, vI_ib, vI_it, vI_il, vI_is, vI_bb, vI_bi, vI_tt, vI_tl, vI_ti, vI_ll, vI_lt, vI_ss, vEqB, vNeB, x_ta, x_ta1, x_ta2, x_ta3, x_ta4, x_ta5, x_is, nc_0, nc_1, nc_2, nc_3, nc_4, nc_5, nc_6, nc_7, nc_8, nc_9, nc_10, nc_11, vMax2, vMin2, vIsN0, vIsN1, vNotN0, vNotN1, vIsN2, vNotN2, x_lo, x_lo1, x_lo2, vAll2, vAny2, x_sl, x_sl1, x_sl2, x_pn, x_ps, x_ps1, x_cutL, x_cutC, vEqS, vNeS, x_fz_obj, x_fr_obj, x_make, x_meth, x_meth2, x_meth3, x_isO, x_isO1, x_cat, x_cat1, x_methZ, x_methZ2, x_methZ3, x_callZ, x_callZ1, x_lend1, x_lend2, x_cl_int, x_cl_bl, x_cl_str, x_cl_non, x_cl_tup, x_cl0, x_cl1, x_cl_lst, x_setIx, x_setIx1, x_setIx2, x_callI, x_callI1, x_callI2, x_callI3, x_take0, x_take1, x_take2, x_put0, x_put1, x_cFI, x_cRI1, x_cRI2, x_outR, x_outR1, x_out1, x_out2, x_par, x_par1, x_sort, x_sort1, x_sort2, x_io2, x_io4, vIsB, x_pop, x_lr, x_lr1, x_clr, x_clr1, x_clrE, x_clrE1, x_pop1, x_pop2, x_ins, x_ins1, x_ins2, x_sk, x_sk1, x_sk2, x_sk3, x_ck, x_ck1, x_lk, x_lk1, x_iK, x_iK1, x_forB, x_fbD, x_fbR, x_fbR2, x_fzE, vInt1, vInt2, x_tupO, x_tupO1, x_tupO2, x_e2Z, x_e2Z1, x_appF, x_appF1, x_appF2, x_appF3, x_setF, x_setF1, x_setF2, x_setF3, x_setFd, x_setFd1, x_makeI, x_makeI1, x_methI, x_methI1, x_methI2, x_mz0, x_mz01, x_mz02, x_mz03, x_m0, x_m01, x_m02, x_m03, x_fz_objt, x_fr_objt, List.all_cons, List.all_nil, Option.isSome_some, Option.map_some, List.getD_cons_zero, List.getD_cons_succ, List.set_cons_zero, List.set_cons_succ, List.map_cons, List.map_nil, List.replicate_zero, List.replicate_succ, List.length_cons, List.length_nil, List.cons_append, List.nil_append, Option.bind_some, if_true, if_false, Bool.false_eq_true, Nat.reduceSub, Nat.reduceAdd, Nat.reduceLeDiff, Nat.reduceLT, vAdd, vSub, vLt, vLe, vGt, vGe, vNeg, vEq, vNe, vEq2, vNe2, vMod, vDiv, vMul, vPow, Int.reduceToNat, vIx0, vIx1, vLenT, vLenC, vLenL, reduceIte, decide_true, decide_false, Bool.not_true, Bool.not_false, beq_self_eq_true, Bool.and_true, Bool.true_and, Bool.and_self, Bool.and_false, Bool.false_and]
          done
        · have e3 : c % 8 % 3 = 1 := by omega
          have h7 : ¬ c % 8 = 7 := by omega
          refine ⟨.two "minus" (c / 8 % (m : Int)).toNat (c / 8 / (m : Int) % (m : Int)).toNat, ?_, nk_ok4 (.inr (.inl rfl)) (by omega) (by omega)⟩
          simp (disch := decide) only [f__law_node, m__law_node, bf h0, bf h8, bf h1, bf h2, bf h7, e3, w3_1, mdm mp, dvm mp hm, if_true, Nk.d, eq, er, x_seq, x_seq1, x_seq2, x_seq3, x_seq4, x_seq5, x_seq6, x_nil, x_if, x_if1, x_if2, x_if3, x_ret, x_ret1, x_ret2, x_ret3, x_retN, x_asg, x_asg1, x_asg2, x_asg3, x_asg4, x_asg5, x_gN, x_drop, x_drop1, x_drop2, x_bk, x_ct, x_raise, x_tZ, x_tZ1, x_tZ2, x_tE, x_tE1, x_tE2, x_tE3, x_tAnd, x_tAnd1, x_tAnd2, x_tAnd3, x_tOr, x_tOr1, x_tOr2, x_tOr3, x_tNot, x_tNot1, x_tNot2, x_tNot3, x_tTrue, x_z2, x_z21, x_z1, x_z11, x_zC, x_zC1, x_za, x_za1, x_za0, x_zV, x_zK, x_ch, x_ch1, x_ch2, x_eZ, x_eZ1, x_eZ2, x_eV, x_eV1, x_eM, x_eM1, x_b1, x_b2, x_b3, x_s1, x_s2, x_s3, x_oO, x_oO2, x_e2, x_e1, x_eC, x_aN, x_aC, x_tup, x_lst, x_call, x_oC1, x_oC2, x_call0, x_call01, x_eAnd, x_eAnd1, x_eOr, x_eOr1, x_eNot, x_eNot1, x_eIf, x_eIf1, x_fz_int, x_fr_int, x_fz_bl, x_fr_bl, x_fz_str, x_fr_str, x_fz_ty, x_fr_ty, x_fz_tup, x_fr_tup, x_fz_cst, x_fr_cst, x_fz_lst_false, x_fr_lst_false, x_fz_non, x_fr_non, x_fz_lt, x_fr_lt, x_fL0, x_fL1, x_cF, x_cR1, x_cR2, x_cR3, x_iL, x_iL1, x_iT, x_iT1, x_iS, x_iS1, x_iR1, x_iR11, x_iR2, x_iR21, x_iE, x_iE1, x_iV, x_iV1, x_iZ, x_iZ1, x_for, x_fo0, x_fo1, x_fo2, x_fo3, x_fo4, x_fo5, x_fo6, x_fo7, x_gT, x_gC, x_gC0, x_try, x_try1, x_try2, x_try3, x_try4, x_try5, x_nx1, x_nx2, x_try6, x_try7, x_nx3, x_nx4, x_app, x_app1, x_app2, x_lc, x_lcE, x_lc0, x_lc1, x_lcG, x_w0, x_w1, vMinL4, vMaxL4, vAll3, vAny3, vAll4, vAny4, x_wh1, x_wh2, x_wh0, x_abs, vI_ii, vI_ib, vI_it, vI_il, vI_is, vI_bb, vI_bi, vI_tt, vI_tl, vI_ti, vI_ll, vI_lt, vI_ss, vEqB, vNeB, x_ta, x_ta1, x_ta2, x_ta3, x_ta4, x_ta5, x_is, nc_0, nc_1, nc_2, nc_3, nc_4, nc_5, nc_6, nc_7, nc_8, nc_9, nc_10, nc_11, vMax2, vMin2, vIsN0, vIsN1, vNotN0, vNotN1, vIsN2, vNotN2, x_lo, x_lo1, x_lo2, vAll2, vAny2, x_sl, x_sl1, x_sl2, x_pn, x_ps, x_ps1, x_cutL, x_cutC, vEqS, vNeS, x_fz_obj, x_fr_obj, x_make, x_meth, x_meth2, x_meth3, x_isO, x_isO1, x_cat, x_cat1, x_methZ, x_methZ2, x_methZ3, x_callZ, x_callZ1, x_lend1, x_lend2, x_cl_int, x_cl_bl, x_cl_str, x_cl_non, x_cl_tup, x_cl0, x_cl1, x_cl_lst, x_setIx, x_setIx1, x_setIx2, x_callI, x_callI1, x_callI2, x_callI3, x_take0, x_take1, x_take2, x_put0, x_put1, x_cFI, x_cRI1, x_cRI2, x_outR, x_outR1, x_out1, x_out2, x_par, x_par1, x_sort, x_sort1, x_sort2, x_io2, x_io4, vIsB, x_pop, x_lr, x_lr1, x_clr, x_clr1, x_clrE, x_clrE1, x_pop1, x_pop2, x_ins, x_ins1, x_ins2, x_sk, x_sk1, x_sk2, x_sk3, x_ck, x_ck1, x_lk, x_lk1, x_iK, x_iK1, x_forB, x_fbD, x_fbR, x_fbR2, x_fzE, vInt1, vInt2, x_tupO, x_tupO1, x_tupO2, x_e2Z, x_e2Z1, x_appF, x_appF1, x_appF2, x_appF3, x_setF, x_setF1, x_setF2, x_setF3, x_setFd, x_setFd1, x_makeI, x_makeI1, x_methI, x_methI1, x_methI2, x_mz0, x_mz01, x_mz02, x_mz03, x_m0, x_m01, x_m02, x_m03, x_fz_objt, x_fr_objt, List.all_cons, List.all_nil, Option.isSome_some, Option.map_some, List.getD_cons_zero, List.getD_cons_succ, List.set_cons_zero, List.set_cons_succ, List.map_cons, List.map_nil, List.replicate_zero, List.replicate_succ, List.length_cons, List.length_nil, List.cons_append, List.nil_append, Option.bind_some, if_true, if_false, Bool.false_eq_true, Nat.reduceSub, Nat.reduceAdd, Nat.reduceLeDiff, Nat.reduceLT, vAdd, vSub, vLt, vLe, vGt, vGe, vNeg, vEq, vNe, vEq2, vNe2, vMod, vDiv, vMul, vPow, Int.reduceToNat, vIx0, vIx1, vLenT, vLenC, vLenL, reduceIte, decide_true, decide_false, Bool.not_true, Bool.not_false, beq_self_eq_true, Bool.and_true, Bool.true_and, Bool.and_self, Bool.and_false, Bool.false_and]
          done
        · have e3 : c % 8 % 3 = 2 := by omega
          have h7 : ¬ c % 8 = 7 := by omega
          refine ⟨.two "times" (c / 8 % (m : Int)).toNat (c / 8 / (m : Int) % (m : Int)).toNat, ?_, nk_ok4 (.inr (.inr rfl)) (by omega) (by omega)⟩
          simp (disch := decide) only [f__law_node, m__law_node, bf h0, bf h8, bf h1, bf h2, bf h7, e3, w3_2, mdm mp, dvm mp hm, if_true, Nk.d, eq, er, x_seq, x_seq1, x_seq2, x_seq3, x_seq4, x_seq5, x_seq6, x_nil, x_if, x_if1, x_if2, x_if3, x_ret, x_ret1, x_ret2, x_ret3, x_retN, x_asg, x_asg1, x_asg2, x_asg3, x_asg4, x_asg5, x_gN, x_drop, x_drop1, x_drop2, x_bk, x_ct, x_raise, x_tZ, x_tZ1, x_tZ2, x_tE, x_tE1, x_tE2, x_tE3, x_tAnd, x_tAnd1, x_tAnd2, x_tAnd3, x_tOr, x_tOr1, x_tOr2, x_tOr3, x_tNot, x_tNot1, x_tNot2, x_tNot3, x_tTrue, x_z2, x_z21, x_z1, x_z11, x_zC, x_zC1, x_za, x_za1, x_za0, x_zV, x_zK, x_ch, x_ch1, x_ch2, x_eZ, x_eZ1, x_eZ2, x_eV, x_eV1, x_eM, x_eM1, x_b1, x_b2, x_b3, x_s1, x_s2, x_s3, x_oO, x_oO2, x_e2, x_e1, x_eC, x_aN, x_aC, x_tup, x_lst, x_call, x_oC1, x_oC2, x_call0, x_call01, x_eAnd, x_eAnd1, x_eOr, x_eOr1, x_eNot, x_eNot1, x_eIf, x_eIf1, x_fz_int, x_fr_int, x_fz_bl, x_fr_bl, x_fz_str, x_fr_str, x_fz_ty, x_fr_ty, x_fz_tup, x_fr_tup, x_fz_cst, x_fr_cst, x_fz_lst_false, x_fr_lst_false, x_fz_non, x_fr_non, x_fz_lt, x_fr_lt, x_fL0, x_fL1, x_cF, x_cR1, x_cR2, x_cR3, x_iL, x_iL1, x_iT, x_iT1, x_iS, x_iS1, x_iR1, x_iR11, x_iR2, x_iR21, x_iE, x_iE1, x_iV, x_iV1, x_iZ, x_iZ1, x_for, x_fo0, x_fo1, x_fo2, x_fo3, x_fo4, x_fo5, x_fo6, x_fo7, x_gT, x_gC, x_gC0, x_try, x_try1, x_try2, x_try3, x_try4, x_try5, x_nx1, x_nx2, x_try6, x_try7, x_nx3, x_nx4, x_app, x_app1, x_app2, x_lc, x_lcE, x_lc0, x_lc1, x_lcG, x_w0, x_w1, vMinL4, vMaxL4, vAll3, vAny3, vAll4, vAny4, x_wh1, x_wh2, x_wh0, x_abs, vI_ii, vI_ib, vI_it, vI_il, vI_is, vI_bb, vI_bi, vI_tt, vI_tl, vI_ti, vI_ll, vI_lt, vI_ss, vEqB, vNeB, x_ta, x_ta1, x_ta2, x_ta3, x_ta4, x_ta5, x_is, nc_0, nc_1, nc_2, nc_3, nc_4, nc_5, nc_6, nc_7, nc_8, nc_9, nc_10, nc_11, vMax2, vMin2, vIsN0, vIsN1, vNotN0, vNotN1, vIsN2, vNotN2, x_lo, x_lo1, x_lo2, vAll2, vAny2, x_sl, x_sl1, x_sl2, x_pn, x_ps, x_ps1, x_cutL, x_cutC, vEqS, vNeS, x_fz_obj, x_fr_obj, x_make, x_meth, x_meth2, x_meth3, x_isO, x_isO1, x_cat, x_cat1, x_methZ, x_methZ2, x_methZ3, x_callZ, x_callZ1, x_lend1, x_lend2, x_cl_int, x_cl_bl, x_cl_str, x_cl_non, x_cl_tup, x_cl0, x_cl1, x_cl_lst, x_setIx, x_setIx1, x_setIx2, x_callI, x_callI1, x_callI2, x_callI3, x_take0, x_take1, x_take2, x_put0, x_put1, x_cFI, x_cRI1, x_cRI2, x_outR, x_outR1, x_out1, x_out2, x_par, x_par1, x_sort, x_sort1, x_sort2, x_io2, x_io4, vIsB, x_pop, x_lr, x_lr1, x_clr, x_clr1, x_clrE, x_clrE1, x_pop1, x_pop2, x_ins, x_ins1, x_ins2, x_sk, x_sk1, x_sk2, x_sk3, x_ck, x_ck1, x_lk, x_lk1, x_iK, x_iK1, x_forB, x_fbD, x_fbR, x_fbR2, x_fzE, vInt1, vInt2, x_tupO, x_tupO1, x_tupO2, x_e2Z, x_e2Z1, x_appF, x_appF1, x_appF2, x_appF3, x_setF, x_setF1, x_setF2, x_setF3, x_setFd, x_setFd1, x_makeI, x_makeI1, x_methI, x_methI1, x_methI2, x_mz0, x_mz01, x_mz02, x_mz03, x_m0, x_m01, x_m02, x_m03, x_fz_objt, x_fr_objt, List.all_cons, List.all_nil, Option.isSome_some, Option.map_some, List.getD_cons_zero, List.getD_cons_succ, List.set_cons_zero, List.set_cons_succ, List.map_cons, List.map_nil, List.replicate_zero, List.replicate_succ, List.length_cons, List.length_nil, List.cons_append, List.nil_append, Option.bind_some, if_true, if_false, Bool.false_eq_true, Nat.reduceSub, Nat.reduceAdd, Nat.reduceLeDiff, Nat.reduceLT, vAdd, vSub, vLt, vLe, vGt, vGe, vNeg, vEq, vNe, vEq2, vNe2, vMod, vDiv, vMul, vPow, Int.reduceToNat, vIx0, vIx1, vLenT, vLenC, vLenL, reduceIte, decide_true, decide_false, Bool.not_true, Bool.not_false, beq_self_eq_true, Bool.and_true, Bool.true_and, Bool.and_self, Bool.and_false, Bool.false_and]
          done
        · have e3 : c % 8 % 3 = 0 := by omega
          have h7 : ¬ c % 8 = 7 := by omega
          refine ⟨.two "plus" (c / 8 % (m : Int)).toNat (c / 8 / (m : Int) % (m : Int)).toNat, ?_, nk_ok4 (.inl rfl) (by omega) (by omega)⟩
          simp (disch := decide) only [f__law_node, m__law_node, bf h0, bf h8, bf h1, bf h2, bf h7, e3, w3_0, mdm mp, dvm mp hm, if_true, Nk.d, eq, er, x_seq, x_seq1, x_seq2, x_seq3, x_seq4, x_seq5, x_seq6, x_nil, x_if, x_if1, x_if2, x_if3, x_ret, x_ret1, x_ret2, x_ret3, x_retN, x_asg, x_asg1, x_asg2, x_asg3, x_asg4, x_asg5, x_gN, x_drop, x_drop1, x_drop2, x_bk, x_ct, x_raise, x_tZ, x_tZ1, x_tZ2, x_tE, x_tE1, x_tE2, x_tE3, x_tAnd, x_tAnd1, x_tAnd2, x_tAnd3, x_tOr, x_tOr1, x_tOr2, x_tOr3, x_tNot, x_tNot1, x_tNot2, x_tNot3, x_tTrue, x_z2, x_z21, x_z1, x_z11, x_zC, x_zC1, x_za, x_za1, x_za0, x_zV, x_zK, x_ch, x_ch1, x_ch2, x_eZ, x_eZ1, x_eZ2, x_eV, x_eV1, x_eM, x_eM1, x_b1, x_b2, x_b3, x_s1, x_s2, x_s3, x_oO, x_oO2, x_e2, x_e1, x_eC, x_aN, x_aC, x_tup, x_lst, x_call, x_oC1, x_oC2, x_call0, x_call01, x_eAnd, x_eAnd1, x_eOr, x_eOr1, x_eNot, x_eNot1, x_eIf, x_eIf1, x_fz_int, x_fr_int, x_fz_bl, x_fr_bl, x_fz_str, x_fr_str, x_fz_ty, x_fr_ty, x_fz_tup, x_fr_tup, x_fz_cst, x_fr_cst, x_fz_lst_false, x_fr_lst_false, x_fz_non, x_fr_non, x_fz_lt, x_fr_lt, x_fL0, x_fL1, x_cF, x_cR1, x_cR2, x_cR3, x_iL, x_iL1, x_iT, x_iT1, x_iS, x_iS1, x_iR1, x_iR11, x_iR2, x_iR21, x_iE, x_iE1, x_iV, x_iV1, x_iZ, x_iZ1, x_for, x_fo0, x_fo1, x_fo2, x_fo3, x_fo4, x_fo5, x_fo6, x_fo7, x_gT, x_gC, x_gC0, x_try, x_try1, x_try2, x_try3, x_try4, x_try5, x_nx1, x_nx2, x_try6, x_try7, x_nx3, x_nx4, x_app, x_app1, x_app2, x_lc, x_lcE, x_lc0, x_lc1, x_lcG, x_w0, x_w1, vMinL4, vMaxL4, vAll3, vAny3, vAll4, vAny4, x_wh1, x_wh2, x_wh0, x_abs, vI_ii, vI_ib, vI_it, vI_il, vI_is, vI_bb, vI_bi, vI_tt, vI_tl, vI_ti, vI_ll, vI_lt, vI_ss, vEqB, vNeB, x_ta, x_ta1, x_ta2, x_ta3, x_ta4, x_ta5, x_is, nc_0, nc_1, nc_2, nc_3, nc_4, nc_5, nc_6, nc_7, nc_8, nc_9, nc_10, nc_11, vMax2, vMin2, vIsN0, vIsN1, vNotN0, vNotN1, vIsN2, vNotN2, x_lo, x_lo1, x_lo2, vAll2, vAny2, x_sl, x_sl1, x_sl2, x_pn, x_ps, x_ps1, x_cutL, x_cutC, vEqS, vNeS, x_fz_obj, x_fr_obj, x_make, x_meth, x_meth2, x_meth3, x_isO, x_isO1, x_cat, x_cat1, x_methZ, x_methZ2, x_methZ3, x_callZ, x_callZ1, x_lend1, x_lend2, x_cl_int, x_cl_bl, x_cl_str, x_cl_non, x_cl_tup, x_cl0, x_cl1, x_cl_lst, x_setIx, x_setIx1, x_setIx2, x_callI, x_callI1, x_callI2, x_callI3, x_take0, x_take1, x_take2, x_put0, x_put1, x_cFI, x_cRI1, x_cRI2, x_outR, x_outR1, x_out1, x_out2, x_par, x_par1, x_sort, x_sort1, x_sort2, x_io2, x_io4, vIsB, x_pop, x_lr, x_lr1, x_clr, x_clr1, x_clrE, x_clrE1, x_pop1, x_pop2, x_ins, x_ins1, x_ins2, x_sk, x_sk1, x_sk2, x_sk3, x_ck, x_ck1, x_lk, x_lk1, x_iK, x_iK1, x_forB, x_fbD, x_fbR, x_fbR2, x_fzE, vInt1, vInt2, x_tupO, x_tupO1, x_tupO2, x_e2Z, x_e2Z1, x_appF, x_appF1, x_appF2, x_appF3, x_setF, x_setF1, x_setF2, x_setF3, x_setFd, x_setFd1, x_makeI, x_makeI1, x_methI, x_methI1, x_methI2, x_mz0, x_mz01, x_mz02, x_mz03, x_m0, x_m01, x_m02, x_m03, x_fz_objt, x_fr_objt, List.all_cons, List.all_nil, Option.isSome_some, Option.map_some, List.getD_cons_zero, List.getD_cons_succ, List.set_cons_zero, List.set_cons_succ, List.map_cons, List.map_nil, List.replicate_zero, List.replicate_succ, List.length_cons, List.length_nil, List.cons_append, List.nil_append, Option.bind_some, if_true, if_false, Bool.false_eq_true, Nat.reduceSub, Nat.reduceAdd, Nat.reduceLeDiff, Nat.reduceLT, vAdd, vSub, vLt, vLe, vGt, vGe, vNeg, vEq, vNe, vEq2, vNe2, vMod, vDiv, vMul, vPow, Int.reduceToNat, vIx0, vIx1, vLenT, vLenC, vLenL, reduceIte, decide_true, decide_false, Bool.not_true, Bool.not_false, beq_self_eq_true, Bool.and_true, Bool.true_and, Bool.and_self, Bool.and_false, Bool.false_and]
          done
        · have e3 : c % 8 % 3 = 1 := by omega
          have em : (((m - 1 : Nat)) : Int) = (m : Int) - 1 := by omega
          refine ⟨.two "minus" (c / 8 % (m : Int)).toNat (m - 1), ?_, nk_ok4 (.inr (.inl rfl)) (by omega) (by omega)⟩
          simp (disch := decide) only [f__law_node, m__law_node, bf h0, bf h8, bf h1, bf h2, bt h, e3, w3_1, mdm mp, dvm mp hm, if_true, Nk.d, eq, er, em, x_seq, x_seq1, x_seq2, x_seq3, x_seq4, x_seq5, x_seq6, x_nil, x_if, x_if1, x_if2, x_if3, x_ret, x_ret1, x_ret2, x_ret3, x_retN, x_asg, x_asg1, x_asg2, x_asg3, x_asg4, x_asg5, x_gN, x_drop, x_drop1, x_drop2, x_bk, x_ct, x_raise, x_tZ, x_tZ1, x_tZ2, x_tE, x_tE1, x_tE2, x_tE3, x_tAnd, x_tAnd1, x_tAnd2, x_tAnd3, x_tOr, x_tOr1, x_tOr2, x_tOr3, x_tNot, x_tNot1, x_tNot2, x_tNot3, x_tTrue, x_z2, x_z21, x_z1, x_z11, x_zC, x_zC1, x_za, x_za1, x_za0, x_zV, x_zK, x_ch, x_ch1, x_ch2, x_eZ, x_eZ1, x_eZ2, x_eV, x_eV1, x_eM, x_eM1, x_b1, x_b2, x_b3, x_s1, x_s2, x_s3, x_oO, x_oO2, x_e2, x_e1, x_eC, x_aN, x_aC, x_tup, x_lst, x_call, x_oC1, x_oC2, x_call0, x_call01, x_eAnd, x_eAnd1, x_eOr, x_eOr1, x_eNot, x_eNot1, x_eIf, x_eIf1, x_fz_int, x_fr_int, x_fz_bl, x_fr_bl, x_fz_str, x_fr_str, x_fz_ty, x_fr_ty, x_fz_tup, x_fr_tup, x_fz_cst, x_fr_cst, x_fz_lst_false, x_fr_lst_false, x_fz_non, x_fr_non, x_fz_lt, x_fr_lt, x_fL0, x_fL1, x_cF, x_cR1, x_cR2, x_cR3, x_iL, x_iL1, x_iT, x_iT1, x_iS, x_iS1, x_iR1, x_iR11, x_iR2, x_iR21, x_iE, x_iE1, x_iV, x_iV1, x_iZ, x_iZ1, x_for, x_fo0, x_fo1, x_fo2, x_fo3, x_fo4, x_fo5, x_fo6, x_fo7, x_gT, x_gC, x_gC0, x_try, x_try1, x_try2, x_try3, x_try4, x_try5, x_nx1, x_nx2, x_try6, x_try7, x_nx3, x_nx4, x_app, x_app1, x_app2, x_lc, x_lcE, x_lc0, x_lc1, x_lcG, x_w0, x_w1, vMinL4, vMaxL4, vAll3, vAny3, vAll4, vAny4, x_wh1, x_wh2, x_wh0, x_abs, vI_ii, vI_ib, vI_it, vI_il, vI_is, vI_bb, vI_bi, vI_tt, vI_tl, vI_ti, vI_ll, vI_lt, vI_ss, vEqB, vNeB, x_ta, x_ta1, x_ta2, x_ta3, x_ta4, x_ta5, x_is, nc_0, nc_1, nc_2, nc_3, nc_4, nc_5, nc_6, nc_7, nc_8, nc_9, nc_10, nc_11, vMax2, vMin2, vIsN0, vIsN1, vNotN0, vNotN1, vIsN2, vNotN2, x_lo, x_lo1, x_lo2, vAll2, vAny2, x_sl, x_sl1, x_sl2, x_pn, x_ps, x_ps1, x_cutL, x_cutC, vEqS, vNeS, x_fz_obj, x_fr_obj, x_make, x_meth, x_meth2, x_meth3, x_isO, x_isO1, x_cat, x_cat1, x_methZ, x_methZ2, x_methZ3, x_callZ, x_callZ1, x_lend1, x_lend2, x_cl_int, x_cl_bl, x_cl_str, x_cl_non, x_cl_tup, x_cl0, x_cl1, x_cl_lst, x_setIx, x_setIx1, x_setIx2, x_callI, x_callI1, x_callI2, x_callI3, x_take0, x_take1, x_take2, x_put0, x_put1, x_cFI, x_cRI1, x_cRI2, x_outR, x_outR1, x_out1, x_out2, x_par, x_par1, x_sort, x_sort1, x_sort2, x_io2, x_io4, vIsB, x_pop, x_lr, x_lr1, x_clr, x_clr1, x_clrE, x_clrE1, x_pop1, x_pop2, x_ins, x_ins1, x_ins2, x_sk, x_sk1, x_sk2, x_sk3, x_ck, x_ck1, x_lk, x_lk1, x_iK, x_iK1, x_forB, x_fbD, x_fbR, x_fbR2, x_fzE, vInt1, vInt2, x_tupO, x_tupO1, x_tupO2, x_e2Z, x_e2Z1, x_appF, x_appF1, x_appF2, x_appF3, x_setF, x_setF1, x_setF2, x_setF3, x_setFd, x_setFd1, x_makeI, x_makeI1, x_methI, x_methI1, x_methI2, x_mz0, x_mz01, x_mz02, x_mz03, x_m0, x_m01, x_m02, x_m03, x_fz_objt, x_fr_objt, List.all_cons, List.all_nil, Option.isSome_some, Option.map_some, List.getD_cons_zero, List.getD_cons_succ, List.set_cons_zero, List.set_cons_succ, List.map_cons, List.map_nil, List.replicate_zero, List.replicate_succ, List.length_cons, List.length_nil, List.cons_append, List.nil_append, Option.bind_some, if_true, if_false, Bool.false_eq_true, Nat.reduceSub, Nat.reduceAdd, Nat.reduceLeDiff, Nat.reduceLT, vAdd, vSub, vLt, vLe, vGt, vGe, vNeg, vEq, vNe, vEq2, vNe2, vMod, vDiv, vMul, vPow, Int.reduceToNat, vIx0, vIx1, vLenT, vLenC, vLenL, reduceIte, decide_true, decide_false, Bool.not_true, Bool.not_false, beq_self_eq_true, Bool.and_true, Bool.true_and, Bool.and_self, Bool.and_false, Bool.false_and]
          done
theorem findP_any {d : PySem.PyData} : ∀ {ds : List PySem.PyData} {k : Nat}, (ds.any fun z => PySem.PyData.eqv z d) = true → ∃ j, findP d ds k = some j
  | [], _, h => by simp at h
  | z :: r, k, h => by
    unfold findP
    by_cases q : PySem.PyData.eqv z d = true
    · rw [if_pos q]; exact ⟨k, rfl⟩
    · rw [if_neg q]
      rw [List.any_cons] at h
      exact findP_any (by simpa [q] using h)
theorem nk_D {m : Nat} {x : Nk} (h : x.Ok m) : Bn.Ok 1 x.d := by
  cases x with
  | num t b =>
    exact ok_tup fun d hd => by
      simp only [List.mem_cons, List.not_mem_nil, or_false] at hd
      rcases hd with rfl | rfl | rfl
      · exact ok_str (by decide +kernel)
      · exact ok_int _
      · exact ok_int _
  | unk k =>
    exact ok_tup fun d hd => by
      simp only [List.mem_cons, List.not_mem_nil, or_false] at hd
      rcases hd with rfl | rfl
      · exact ok_str (by decide +kernel)
      · exact ok_int _
  | pow i k =>
    exact ok_tup fun d hd => by
      simp only [List.mem_cons, List.not_mem_nil, or_false] at hd
      rcases hd with rfl | rfl | rfl
      · exact ok_str (by decide +kernel)
      · exact ok_int _
      · exact ok_int _
  | two w i j =>
    exact ok_tup fun d hd => by
      simp only [List.mem_cons, List.not_mem_nil, or_false] at hd
      rcases hd with rfl | rfl | rfl
      · rcases (h.t _ _ _ rfl).1 with rfl | rfl | rfl <;> exact ok_str (by decide +kernel)
      · exact ok_int _
      · exact ok_int _
theorem nk_z (x : Nk) : isFz x.d = true := by cases x <;> rfl
structure St (xs : List Nk) (hs : List Int) : Prop where
  hl : hs.length = xs.length
  l : xs.length ≤ 60
  w : ∀ h ∈ hs, 1 ≤ h ∧ h ≤ 16
  ok : ∀ x ∈ xs, Bn.Ok 1 x.d
theorem St.at {xs : List Nk} {hs : List Int} (S : St xs hs) {i : Nat} (h : i < xs.length) : 1 ≤ hs.getD i 0 ∧ hs.getD i 0 ≤ 16 := by
  have hi : i < hs.length := by rw [S.hl]; exact h
  rw [List.getD_eq_getElem?_getD, List.getElem?_eq_getElem hi]
  exact S.w _ (List.getElem_mem hi)
theorem wts {xs : List Nk} {hs : List Int} (S : St xs hs) {x : Nk} (h : x.Ok xs.length) : ∃ w, f_weight_of [x.d, .lst false (hs.map D.int)] = .ok (.int w) ∧ f__law_weight [x.d, .lst false (hs.map D.int)] = .ok (.int w) ∧ 1 ≤ w := by
  have hl := S.hl
  cases x with
  | num t b => exact ⟨_, wt_num, lw_num, by decide⟩
  | unk k => exact ⟨_, wt_unk, lw_unk, by decide⟩
  | pow i k =>
    obtain ⟨a, b, c⟩ := h.p _ _ rfl
    have q := S.at a
    refine ⟨_, wt_pow (by omega) ⟨by omega, q.2⟩ b c, lw_pow (by omega) ⟨by omega, q.2⟩ b c, ?_⟩
    have := Int.mul_pos (show 0 < k by omega) (show 0 < hs.getD i 0 by omega)
    omega
  | two w i j =>
    obtain ⟨a, b, c⟩ := h.t _ _ _ rfl
    have q := S.at b
    have r := S.at c
    rcases a with rfl | rfl | rfl
    · exact ⟨_, wt_plus (by omega) (by omega), lw_plus (by omega) (by omega), by omega⟩
    · exact ⟨_, wt_minus (by omega) (by omega), lw_minus (by omega) (by omega), by omega⟩
    · exact ⟨_, wt_times (by omega) (by omega), lw_times (by omega) (by omega), by omega⟩
def nsD (xs : List Nk) : D := .lst true (xs.map Nk.d)
def hsD (hs : List Int) : D := .lst true (hs.map D.int)
theorem step_ok {xs : List Nk} {hs : List Int} (S : St xs hs) {x : Nk} (h : x.Ok xs.length) : ∃ xs' hs', f__law_step [ntD true (xs.map Nk.d) hs, nsD xs, hsD hs, x.d] = .ok (.bl true) [ntD true (xs'.map Nk.d) hs', nsD xs', hsD hs'] ∧ St xs' hs' := by
  have o1 : okP x.d = true := (nk_D h).p
  have o2 : okP (.lst true (xs.map Nk.d)) = true := (ok_lst (n := 1) fun d hd => by
    obtain ⟨y, hy, rfl⟩ := List.mem_map.mp hd
    exact S.ok y hy).p
  have v := vInD o1 o2
  have hl := S.hl
  have l := S.l
  obtain ⟨w, e1, e2, w1⟩ := wts S h
  cases c : ((toPs (xs.map Nk.d)).any fun z => PySem.PyData.eqv z (toP x.d)) with
  | true =>
    rw [c] at v
    obtain ⟨j, hj⟩ := findP_any (k := 0) c
    exact ⟨xs, hs, step_old v (vIndex o1 o2 hj) (nk_z x), S⟩
  | false =>
    rw [c] at v
    by_cases q : 16 < w ∨ 60 ≤ (xs.map Nk.d).length
    · exact ⟨xs, hs, step_full v (nk_z x) e1 e2 q, S⟩
    · have q1 : w ≤ 16 := by omega
      have q2 : (xs.map Nk.d).length < 60 := by omega
      have q3 := q2
      rw [List.length_map] at q3
      refine ⟨xs ++ [x], hs ++ [w], ?_, ⟨by rw [List.length_append, List.length_append, hl]; rfl, by rw [List.length_append]; show xs.length + 1 ≤ 60; omega, fun a ha => ?_, fun y hy => ?_⟩⟩
      · have := step_new v (nk_z x) e1 e2 q1 q2 (by omega)
        unfold nsD hsD
        rw [List.map_append]
        exact this
      · rcases List.mem_append.mp ha with ha | ha
        · exact S.w a ha
        · cases List.mem_singleton.mp ha; exact ⟨w1, q1⟩
      · rcases List.mem_append.mp hy with hy | hy
        · exact S.ok y hy
        · cases List.mem_singleton.mp hy; exact nk_D h
theorem loop_ok {g : D → Bn.Env → Option Bn.Env} {b : MS} {P : Bn.Env → Prop} : ∀ {ds : List D} {τ : Bn.Env}, P τ → (∀ d ∈ ds, ∀ τ, P τ → ∃ τ1 τ2, g d τ = some τ1 ∧ b τ1 = .nx τ2 ∧ P τ2) → ∃ τ', forL g b ds τ = .nx τ' ∧ P τ'
  | [], τ, p, _ => ⟨τ, rfl, p⟩
  | d :: ds, τ, p, h => by
    obtain ⟨τ1, τ2, e1, e2, p2⟩ := h d List.mem_cons_self τ p
    obtain ⟨τ', e, q⟩ := loop_ok (ds := ds) p2 fun x hx => h x (List.mem_cons_of_mem _ hx)
    refine ⟨τ', ?_, q⟩
    show (match g d τ with | none => SR.bad | some τ1 => match b τ1 with | .nx τ2 => forL g b ds τ2 | .ct τ2 => forL g b ds τ2 | .bk τ2 => .nx τ2 | .rt d τ2 => .rt d τ2 | .ex c τ2 => .ex c τ2 | .bad => .bad) = _
    rw [e1]; dsimp only; rw [e2]; exact e
def PL (sc : D) (τ : Bn.Env) : Prop := ∃ xs hs a5 a6, St xs hs ∧ τ = [some sc, some (ntD true (xs.map Nk.d) hs), some (ntD true [] []), some (nsD xs), some (hsD hs), a5, a6, none, none, none]
theorem turn1 {sc : D} {k : Int} : ∀ τ, PL sc τ → ∃ τ1 τ2, gN 5 (.int k) τ = some τ1 ∧ (sIf (tNot (tE (eCallI f__law_step [1, 3, 4] (aCons (eTup (aCons (eZ (zC (.str "number"))) (aCons (eZ (z2 gSub (zVar 5) (zC (.int 7)))) (aCons (eZ (zC (.int 1))) aNil)))) aNil)))) (sRet (eZ (zC (.bl false)))) sNil) τ1 = .nx τ2 ∧ PL sc τ2 := by
  rintro τ ⟨xs, hs, a5, a6, S, rfl⟩
  obtain ⟨xs', hs', e, S'⟩ := step_ok S (x := .num (k - 7) 1) nk_ok1
  have e : f__law_step [ntD true (xs.map Nk.d) hs, nsD xs, hsD hs, .tup [.str "number", .int (k - 7), .int 1]] = .ok (.bl true) [ntD true (xs'.map Nk.d) hs', nsD xs', hsD hs'] := e
  refine ⟨_, [some sc, some (ntD true (xs'.map Nk.d) hs'), some (ntD true [] []), some (nsD xs'), some (hsD hs'), some (.int k), a6, none, none, none], rfl, ?_, ⟨xs', hs', _, _, S', rfl⟩⟩
  simp (disch := decide) only [List.set_cons_succ, List.set_cons_zero, e, x_seq, x_seq1, x_seq2, x_seq3, x_seq4, x_seq5, x_seq6, x_nil, x_if, x_if1, x_if2, x_if3, x_ret, x_ret1, x_ret2, x_ret3, x_retN, x_asg, x_asg1, x_asg2, x_asg3, x_asg4, x_asg5, x_gN, x_drop, x_drop1, x_drop2, x_bk, x_ct, x_raise, x_tZ, x_tZ1, x_tZ2, x_tE, x_tE1, x_tE2, x_tE3, x_tAnd, x_tAnd1, x_tAnd2, x_tAnd3, x_tOr, x_tOr1, x_tOr2, x_tOr3, x_tNot, x_tNot1, x_tNot2, x_tNot3, x_tTrue, x_z2, x_z21, x_z1, x_z11, x_zC, x_zC1, x_za, x_za1, x_za0, x_zV, x_zK, x_ch, x_ch1, x_ch2, x_eZ, x_eZ1, x_eZ2, x_eV, x_eV1, x_eM, x_eM1, x_b1, x_b2, x_b3, x_s1, x_s2, x_s3, x_oO, x_oO2, x_e2, x_e1, x_eC, x_aN, x_aC, x_tup, x_lst, x_call, x_oC1, x_oC2, x_call0, x_call01, x_eAnd, x_eAnd1, x_eOr, x_eOr1, x_eNot, x_eNot1, x_eIf, x_eIf1, x_fz_int, x_fr_int, x_fz_bl, x_fr_bl, x_fz_str, x_fr_str, x_fz_ty, x_fr_ty, x_fz_tup, x_fr_tup, x_fz_cst, x_fr_cst, x_fz_lst_false, x_fr_lst_false, x_fz_non, x_fr_non, x_fz_lt, x_fr_lt, x_fL0, x_fL1, x_cF, x_cR1, x_cR2, x_cR3, x_iL, x_iL1, x_iT, x_iT1, x_iS, x_iS1, x_iR1, x_iR11, x_iR2, x_iR21, x_iE, x_iE1, x_iV, x_iV1, x_iZ, x_iZ1, x_for, x_fo0, x_fo1, x_fo2, x_fo3, x_fo4, x_fo5, x_fo6, x_fo7, x_gT, x_gC, x_gC0, x_try, x_try1, x_try2, x_try3, x_try4, x_try5, x_nx1, x_nx2, x_try6, x_try7, x_nx3, x_nx4, x_app, x_app1, x_app2, x_lc, x_lcE, x_lc0, x_lc1, x_lcG, x_w0, x_w1, vMinL4, vMaxL4, vAll3, vAny3, vAll4, vAny4, x_wh1, x_wh2, x_wh0, x_abs, vI_ii, vI_ib, vI_it, vI_il, vI_is, vI_bb, vI_bi, vI_tt, vI_tl, vI_ti, vI_ll, vI_lt, vI_ss, vEqB, vNeB, x_ta, x_ta1, x_ta2, x_ta3, x_ta4, x_ta5, x_is, nc_0, nc_1, nc_2, nc_3, nc_4, nc_5, nc_6, nc_7, nc_8, nc_9, nc_10, nc_11, vMax2, vMin2, vIsN0, vIsN1, vNotN0, vNotN1, vIsN2, vNotN2, x_lo, x_lo1, x_lo2, vAll2, vAny2, x_sl, x_sl1, x_sl2, x_pn, x_ps, x_ps1, x_cutL, x_cutC, vEqS, vNeS, x_fz_obj, x_fr_obj, x_make, x_meth, x_meth2, x_meth3, x_isO, x_isO1, x_cat, x_cat1, x_methZ, x_methZ2, x_methZ3, x_callZ, x_callZ1, x_lend1, x_lend2, x_cl_int, x_cl_bl, x_cl_str, x_cl_non, x_cl_tup, x_cl0, x_cl1, x_cl_lst, x_setIx, x_setIx1, x_setIx2, x_callI, x_callI1, x_callI2, x_callI3, x_take0, x_take1, x_take2, x_put0, x_put1, x_cFI, x_cRI1, x_cRI2, x_outR, x_outR1, x_out1, x_out2, x_par, x_par1, x_sort, x_sort1, x_sort2, x_io2, x_io4, vIsB, x_pop, x_lr, x_lr1, x_clr, x_clr1, x_clrE, x_clrE1, x_pop1, x_pop2, x_ins, x_ins1, x_ins2, x_sk, x_sk1, x_sk2, x_sk3, x_ck, x_ck1, x_lk, x_lk1, x_iK, x_iK1, x_forB, x_fbD, x_fbR, x_fbR2, x_fzE, vInt1, vInt2, x_tupO, x_tupO1, x_tupO2, x_e2Z, x_e2Z1, x_appF, x_appF1, x_appF2, x_appF3, x_setF, x_setF1, x_setF2, x_setF3, x_setFd, x_setFd1, x_makeI, x_makeI1, x_methI, x_methI1, x_methI2, x_mz0, x_mz01, x_mz02, x_mz03, x_m0, x_m01, x_m02, x_m03, x_fz_objt, x_fr_objt, List.all_cons, List.all_nil, Option.isSome_some, Option.map_some, List.getD_cons_zero, List.getD_cons_succ, List.set_cons_zero, List.set_cons_succ, List.map_cons, List.map_nil, List.replicate_zero, List.replicate_succ, List.length_cons, List.length_nil, List.cons_append, List.nil_append, Option.bind_some, if_true, if_false, Bool.false_eq_true, Nat.reduceSub, Nat.reduceAdd, Nat.reduceLeDiff, Nat.reduceLT, vAdd, vSub, vLt, vLe, vGt, vGe, vNeg, vEq, vNe, vEq2, vNe2, vMod, vDiv, vMul, vPow, Int.reduceToNat, vIx0, vIx1, vLenT, vLenC, vLenL, reduceIte, decide_true, decide_false, Bool.not_true, Bool.not_false, beq_self_eq_true, Bool.and_true, Bool.true_and, Bool.and_self, Bool.and_false, Bool.false_and]
  done
theorem lenN (xs : List Nk) : gLen [nsD xs] = some (.int (xs.length : Int)) := by
  show some (D.int (((xs.map Nk.d).length : Nat) : Int)) = _
  rw [List.length_map]
theorem pow9 : gPow (.int 10) (.int 9) = some (.int 1000000000) := (vPow (by decide)).trans rfl
theorem turn2 {sc : D} {c : Int} : ∀ τ, PL sc τ → ∃ τ1 τ2, gN 6 (.int c) τ = some τ1 ∧ (sIf (tNot (tE (eCallI f__law_step [1, 3, 4] (aCons (eCall f__law_node (aCons (eZ (z2 gMod (zVar 6) (z2 gPow (zC (.int 10)) (zC (.int 9))))) (aCons (eZ (zC' gLen (zaCons (zVar 3) zaNil))) aNil))) aNil)))) (sRet (eZ (zC (.bl false)))) sNil) τ1 = .nx τ2 ∧ PL sc τ2 := by
  rintro τ ⟨xs, hs, a5, a6, S, rfl⟩
  have l := S.l
  obtain ⟨x, en, hx⟩ := node_ok (c := c % 10 ^ 9) (m := xs.length) (Int.emod_nonneg _ (by decide)) (by have := Int.emod_lt_of_pos c (show (0 : Int) < 10 ^ 9 by decide); omega) (by omega)
  obtain ⟨xs', hs', e, S'⟩ := step_ok S hx
  have fx : freeze x.d = x.d := freeze_of (nk_z x)
  refine ⟨_, [some sc, some (ntD true (xs'.map Nk.d) hs'), some (ntD true [] []), some (nsD xs'), some (hsD hs'), a5, some (.int c), none, none, none], rfl, ?_, ⟨xs', hs', _, _, S', rfl⟩⟩
  simp (disch := decide) only [List.set_cons_succ, List.set_cons_zero, e, en, lenN, pow9, fx, x_seq, x_seq1, x_seq2, x_seq3, x_seq4, x_seq5, x_seq6, x_nil, x_if, x_if1, x_if2, x_if3, x_ret, x_ret1, x_ret2, x_ret3, x_retN, x_asg, x_asg1, x_asg2, x_asg3, x_asg4, x_asg5, x_gN, x_drop, x_drop1, x_drop2, x_bk, x_ct, x_raise, x_tZ, x_tZ1, x_tZ2, x_tE, x_tE1, x_tE2, x_tE3, x_tAnd, x_tAnd1, x_tAnd2, x_tAnd3, x_tOr, x_tOr1, x_tOr2, x_tOr3, x_tNot, x_tNot1, x_tNot2, x_tNot3, x_tTrue, x_z2, x_z21, x_z1, x_z11, x_zC, x_zC1, x_za, x_za1, x_za0, x_zV, x_zK, x_ch, x_ch1, x_ch2, x_eZ, x_eZ1, x_eZ2, x_eV, x_eV1, x_eM, x_eM1, x_b1, x_b2, x_b3, x_s1, x_s2, x_s3, x_oO, x_oO2, x_e2, x_e1, x_eC, x_aN, x_aC, x_tup, x_lst, x_call, x_oC1, x_oC2, x_call0, x_call01, x_eAnd, x_eAnd1, x_eOr, x_eOr1, x_eNot, x_eNot1, x_eIf, x_eIf1, x_fz_int, x_fr_int, x_fz_bl, x_fr_bl, x_fz_str, x_fr_str, x_fz_ty, x_fr_ty, x_fz_tup, x_fr_tup, x_fz_cst, x_fr_cst, x_fz_lst_false, x_fr_lst_false, x_fz_non, x_fr_non, x_fz_lt, x_fr_lt, x_fL0, x_fL1, x_cF, x_cR1, x_cR2, x_cR3, x_iL, x_iL1, x_iT, x_iT1, x_iS, x_iS1, x_iR1, x_iR11, x_iR2, x_iR21, x_iE, x_iE1, x_iV, x_iV1, x_iZ, x_iZ1, x_for, x_fo0, x_fo1, x_fo2, x_fo3, x_fo4, x_fo5, x_fo6, x_fo7, x_gT, x_gC, x_gC0, x_try, x_try1, x_try2, x_try3, x_try4, x_try5, x_nx1, x_nx2, x_try6, x_try7, x_nx3, x_nx4, x_app, x_app1, x_app2, x_lc, x_lcE, x_lc0, x_lc1, x_lcG, x_w0, x_w1, vMinL4, vMaxL4, vAll3, vAny3, vAll4, vAny4, x_wh1, x_wh2, x_wh0, x_abs, vI_ii, vI_ib, vI_it, vI_il, vI_is, vI_bb, vI_bi, vI_tt, vI_tl, vI_ti, vI_ll, vI_lt, vI_ss, vEqB, vNeB, x_ta, x_ta1, x_ta2, x_ta3, x_ta4, x_ta5, x_is, nc_0, nc_1, nc_2, nc_3, nc_4, nc_5, nc_6, nc_7, nc_8, nc_9, nc_10, nc_11, vMax2, vMin2, vIsN0, vIsN1, vNotN0, vNotN1, vIsN2, vNotN2, x_lo, x_lo1, x_lo2, vAll2, vAny2, x_sl, x_sl1, x_sl2, x_pn, x_ps, x_ps1, x_cutL, x_cutC, vEqS, vNeS, x_fz_obj, x_fr_obj, x_make, x_meth, x_meth2, x_meth3, x_isO, x_isO1, x_cat, x_cat1, x_methZ, x_methZ2, x_methZ3, x_callZ, x_callZ1, x_lend1, x_lend2, x_cl_int, x_cl_bl, x_cl_str, x_cl_non, x_cl_tup, x_cl0, x_cl1, x_cl_lst, x_setIx, x_setIx1, x_setIx2, x_callI, x_callI1, x_callI2, x_callI3, x_take0, x_take1, x_take2, x_put0, x_put1, x_cFI, x_cRI1, x_cRI2, x_outR, x_outR1, x_out1, x_out2, x_par, x_par1, x_sort, x_sort1, x_sort2, x_io2, x_io4, vIsB, x_pop, x_lr, x_lr1, x_clr, x_clr1, x_clrE, x_clrE1, x_pop1, x_pop2, x_ins, x_ins1, x_ins2, x_sk, x_sk1, x_sk2, x_sk3, x_ck, x_ck1, x_lk, x_lk1, x_iK, x_iK1, x_forB, x_fbD, x_fbR, x_fbR2, x_fzE, vInt1, vInt2, x_tupO, x_tupO1, x_tupO2, x_e2Z, x_e2Z1, x_appF, x_appF1, x_appF2, x_appF3, x_setF, x_setF1, x_setF2, x_setF3, x_setFd, x_setFd1, x_makeI, x_makeI1, x_methI, x_methI1, x_methI2, x_mz0, x_mz01, x_mz02, x_mz03, x_m0, x_m01, x_m02, x_m03, x_fz_objt, x_fr_objt, List.all_cons, List.all_nil, Option.isSome_some, Option.map_some, List.getD_cons_zero, List.getD_cons_succ, List.set_cons_zero, List.set_cons_succ, List.map_cons, List.map_nil, List.replicate_zero, List.replicate_succ, List.length_cons, List.length_nil, List.cons_append, List.nil_append, Option.bind_some, if_true, if_false, Bool.false_eq_true, Nat.reduceSub, Nat.reduceAdd, Nat.reduceLeDiff, Nat.reduceLT, vAdd, vSub, vLt, vLe, vGt, vGe, vNeg, vEq, vNe, vEq2, vNe2, vMod, vDiv, vMul, vPow, Int.reduceToNat, vIx0, vIx1, vLenT, vLenC, vLenL, reduceIte, decide_true, decide_false, Bool.not_true, Bool.not_false, beq_self_eq_true, Bool.and_true, Bool.true_and, Bool.and_self, Bool.and_false, Bool.false_and]
  done
theorem fzD (xs : List Nk) : freezeL (xs.map Nk.d) = xs.map Nk.d := fz_map (fun x => freeze_of (nk_z x)) xs
theorem nk1 (x : Nk) {m : Nat} (h : Bn.Ok 1 x.d) : ∃ j : Int, gIx x.d (.int 1) = some (.int j) := by
  cases x with
  | num t b => exact ⟨t, vIxT [D.str "number", D.int t, D.int b] 1⟩
  | unk k => exact ⟨k, vIxT [D.str "unknown", D.int k] 1⟩
  | pow i k => exact ⟨i, vIxT [D.str "power", D.int i, D.int k] 1⟩
  | two w i j => exact ⟨i, vIxT [D.str w, D.int i, D.int j] 1⟩
theorem ne_self {x : Nk} (h : Bn.Ok 1 x.d) : gNe x.d x.d = some (.bl false) := vNeX h h rfl
theorem isi_tup (x : Nk) : gIsi [x.d, .ty "tuple"] = some (.bl true) := by cases x <;> rfl
theorem zip_self : ∀ (xs : List D), zipD xs xs = xs.map fun d => .tup [d, d]
  | [] => rfl
  | d :: xs => by
    show D.tup [d, d] :: zipD xs xs = _
    rw [zip_self xs]; rfl
theorem nodes_run {m : Bool} {xs : List Nk} {hs : List Int} (S : St xs hs) (τ : Bn.Env) (hc : clean (.lst true (xs.map Nk.d)) = true) (hf : freeze (ntD m (xs.map Nk.d) hs) = ntD false (xs.map Nk.d) hs) : eMethZ0 al_nodes "nodes" 0 (some (ntD m (xs.map Nk.d) hs) :: τ) = .ok (.lst true (xs.map Nk.d)) (some (ntD m (xs.map Nk.d) hs) :: τ) := by
  show lendR0 (f_Net_nodes [freeze (ntD m (xs.map Nk.d) hs)]) _ = _
  rw [hf, nodes_ok]
  exact if_pos hc
theorem cl_ns : ∀ xs : List Nk, cleanL (xs.map Nk.d) = true
  | [] => rfl
  | x :: xs => by
    show (clean x.d && cleanL (xs.map Nk.d)) = true
    rw [cl_ns xs]
    cases x <;> rfl
theorem fz_nt (m : Bool) (xs : List Nk) (hs : List Int) : freeze (ntD m (xs.map Nk.d) hs) = ntD false (xs.map Nk.d) hs := by
  have e1 := fzD xs
  have e2 : freezeL (hs.map D.int) = hs.map D.int := fz_map (fun _ => rfl) hs
  cases m <;> simp only [ntD, freeze, freezeL, e1, e2]
def PZ (xs : List Nk) (hs : List Int) (τ : Bn.Env) : Prop := ∃ a b, τ = [some (ntD false (xs.map Nk.d) hs), some (.lst false (xs.map Nk.d)), none, a, b]
theorem turnZ {xs : List Nk} {hs : List Int} {x : Nk} (h : Bn.Ok 1 x.d) : ∀ τ, PZ xs hs τ → ∃ τ1 τ2, gT 2 (gCons' (gN 3) (gCons' (gN 4) gNil')) (.tup [x.d, x.d]) τ = some τ1 ∧ (sIf (tOr (tNot (tZ (zC' gIsi (zaCons (zVar 3) (zaCons (zC (.ty "tuple")) zaNil))))) (tOr (tNot (tE (eCall f__law_whole (aCons (eZ (z2 gIx (zVar 3) (zC (.int 1)))) aNil)))) (tZ (z2 gNe (zVar 3) (zVar 4))))) (sRet (eZ (zC (.bl false)))) sNil) τ1 = .nx τ2 ∧ PZ xs hs τ2 := by
  rintro τ ⟨a, b, rfl⟩
  obtain ⟨j, e⟩ := nk1 x h (m := 0)
  have t := isi_tup x
  have n := ne_self h
  refine ⟨_, [some (ntD false (xs.map Nk.d) hs), some (.lst false (xs.map Nk.d)), none, some x.d, some x.d], rfl, ?_, ⟨_, _, rfl⟩⟩
  simp (disch := decide) only [e, t, n, whole_ok, x_seq, x_seq1, x_seq2, x_seq3, x_seq4, x_seq5, x_seq6, x_nil, x_if, x_if1, x_if2, x_if3, x_ret, x_ret1, x_ret2, x_ret3, x_retN, x_asg, x_asg1, x_asg2, x_asg3, x_asg4, x_asg5, x_gN, x_drop, x_drop1, x_drop2, x_bk, x_ct, x_raise, x_tZ, x_tZ1, x_tZ2, x_tE, x_tE1, x_tE2, x_tE3, x_tAnd, x_tAnd1, x_tAnd2, x_tAnd3, x_tOr, x_tOr1, x_tOr2, x_tOr3, x_tNot, x_tNot1, x_tNot2, x_tNot3, x_tTrue, x_z2, x_z21, x_z1, x_z11, x_zC, x_zC1, x_za, x_za1, x_za0, x_zV, x_zK, x_ch, x_ch1, x_ch2, x_eZ, x_eZ1, x_eZ2, x_eV, x_eV1, x_eM, x_eM1, x_b1, x_b2, x_b3, x_s1, x_s2, x_s3, x_oO, x_oO2, x_e2, x_e1, x_eC, x_aN, x_aC, x_tup, x_lst, x_call, x_oC1, x_oC2, x_call0, x_call01, x_eAnd, x_eAnd1, x_eOr, x_eOr1, x_eNot, x_eNot1, x_eIf, x_eIf1, x_fz_int, x_fr_int, x_fz_bl, x_fr_bl, x_fz_str, x_fr_str, x_fz_ty, x_fr_ty, x_fz_tup, x_fr_tup, x_fz_cst, x_fr_cst, x_fz_lst_false, x_fr_lst_false, x_fz_non, x_fr_non, x_fz_lt, x_fr_lt, x_fL0, x_fL1, x_cF, x_cR1, x_cR2, x_cR3, x_iL, x_iL1, x_iT, x_iT1, x_iS, x_iS1, x_iR1, x_iR11, x_iR2, x_iR21, x_iE, x_iE1, x_iV, x_iV1, x_iZ, x_iZ1, x_for, x_fo0, x_fo1, x_fo2, x_fo3, x_fo4, x_fo5, x_fo6, x_fo7, x_gT, x_gC, x_gC0, x_try, x_try1, x_try2, x_try3, x_try4, x_try5, x_nx1, x_nx2, x_try6, x_try7, x_nx3, x_nx4, x_app, x_app1, x_app2, x_lc, x_lcE, x_lc0, x_lc1, x_lcG, x_w0, x_w1, vMinL4, vMaxL4, vAll3, vAny3, vAll4, vAny4, x_wh1, x_wh2, x_wh0, x_abs, vI_ii, vI_ib, vI_it, vI_il, vI_is, vI_bb, vI_bi, vI_tt, vI_tl, vI_ti, vI_ll, vI_lt, vI_ss, vEqB, vNeB, x_ta, x_ta1, x_ta2, x_ta3, x_ta4, x_ta5, x_is, nc_0, nc_1, nc_2, nc_3, nc_4, nc_5, nc_6, nc_7, nc_8, nc_9, nc_10, nc_11, vMax2, vMin2, vIsN0, vIsN1, vNotN0, vNotN1, vIsN2, vNotN2, x_lo, x_lo1, x_lo2, vAll2, vAny2, x_sl, x_sl1, x_sl2, x_pn, x_ps, x_ps1, x_cutL, x_cutC, vEqS, vNeS, x_fz_obj, x_fr_obj, x_make, x_meth, x_meth2, x_meth3, x_isO, x_isO1, x_cat, x_cat1, x_methZ, x_methZ2, x_methZ3, x_callZ, x_callZ1, x_lend1, x_lend2, x_cl_int, x_cl_bl, x_cl_str, x_cl_non, x_cl_tup, x_cl0, x_cl1, x_cl_lst, x_setIx, x_setIx1, x_setIx2, x_callI, x_callI1, x_callI2, x_callI3, x_take0, x_take1, x_take2, x_put0, x_put1, x_cFI, x_cRI1, x_cRI2, x_outR, x_outR1, x_out1, x_out2, x_par, x_par1, x_sort, x_sort1, x_sort2, x_io2, x_io4, vIsB, x_pop, x_lr, x_lr1, x_clr, x_clr1, x_clrE, x_clrE1, x_pop1, x_pop2, x_ins, x_ins1, x_ins2, x_sk, x_sk1, x_sk2, x_sk3, x_ck, x_ck1, x_lk, x_lk1, x_iK, x_iK1, x_forB, x_fbD, x_fbR, x_fbR2, x_fzE, vInt1, vInt2, x_tupO, x_tupO1, x_tupO2, x_e2Z, x_e2Z1, x_appF, x_appF1, x_appF2, x_appF3, x_setF, x_setF1, x_setF2, x_setF3, x_setFd, x_setFd1, x_makeI, x_makeI1, x_methI, x_methI1, x_methI2, x_mz0, x_mz01, x_mz02, x_mz03, x_m0, x_m01, x_m02, x_m03, x_fz_objt, x_fr_objt, List.all_cons, List.all_nil, Option.isSome_some, Option.map_some, List.getD_cons_zero, List.getD_cons_succ, List.set_cons_zero, List.set_cons_succ, List.map_cons, List.map_nil, List.replicate_zero, List.replicate_succ, List.length_cons, List.length_nil, List.cons_append, List.nil_append, Option.bind_some, if_true, if_false, Bool.false_eq_true, Nat.reduceSub, Nat.reduceAdd, Nat.reduceLeDiff, Nat.reduceLT, vAdd, vSub, vLt, vLe, vGt, vGe, vNeg, vEq, vNe, vEq2, vNe2, vMod, vDiv, vMul, vPow, Int.reduceToNat, vIx0, vIx1, vLenT, vLenC, vLenL, reduceIte, decide_true, decide_false, Bool.not_true, Bool.not_false, beq_self_eq_true, Bool.and_true, Bool.true_and, Bool.and_self, Bool.and_false, Bool.false_and]
  done
theorem all_fz (xs : List Nk) : (xs.map Nk.d).all isFz = true := by
  rw [List.all_map]; exact List.all_eq_true.mpr fun x _ => nk_z x
theorem listed_ok {xs : List Nk} {hs : List Int} (S : St xs hs) : f__law_listed [ntD false (xs.map Nk.d) hs, .lst false (xs.map Nk.d)] = .ok (.bl true) := by
  have n1 : ∀ τ : Bn.Env, eMethZ0 al_nodes "nodes" 0 (some (ntD false (xs.map Nk.d) hs) :: τ) = .ok (.lst true (xs.map Nk.d)) (some (ntD false (xs.map Nk.d) hs) :: τ) := fun τ => nodes_run S τ (by show (true && cleanL (xs.map Nk.d)) = true; rw [cl_ns]; rfl) (fz_nt false xs hs)
  obtain ⟨τ', eL, a, b, rfl⟩ := loop_ok (g := (gT 2 (gCons' (gN 3) (gCons' (gN 4) gNil')))) (b := (sIf (tOr (tNot (tZ (zC' gIsi (zaCons (zVar 3) (zaCons (zC (.ty "tuple")) zaNil))))) (tOr (tNot (tE (eCall f__law_whole (aCons (eZ (z2 gIx (zVar 3) (zC (.int 1)))) aNil)))) (tZ (z2 gNe (zVar 3) (zVar 4))))) (sRet (eZ (zC (.bl false)))) sNil)) (P := PZ xs hs) (ds := zipD (xs.map Nk.d) (xs.map Nk.d)) (τ := [some (ntD false (xs.map Nk.d) hs), some (.lst false (xs.map Nk.d)), none, none, none]) ⟨none, none, rfl⟩ (fun d hd => by
    rw [zip_self] at hd
    obtain ⟨d', hd', rfl⟩ := List.mem_map.mp hd
    obtain ⟨x, hx, rfl⟩ := List.mem_map.mp hd'
    exact turnZ (S.ok x hx))
  have hZ : sForZB 2 1 (gT 2 (gCons' (gN 3) (gCons' (gN 4) gNil'))) (sIf (tOr (tNot (tZ (zC' gIsi (zaCons (zVar 3) (zaCons (zC (.ty "tuple")) zaNil))))) (tOr (tNot (tE (eCall f__law_whole (aCons (eZ (z2 gIx (zVar 3) (zC (.int 1)))) aNil)))) (tZ (z2 gNe (zVar 3) (zVar 4))))) (sRet (eZ (zC (.bl false)))) sNil) [some (ntD false (xs.map Nk.d) hs), some (.lst false (xs.map Nk.d)), some (.lst true (xs.map Nk.d)), none, none] = .nx [some (ntD false (xs.map Nk.d) hs), some (.lst false (xs.map Nk.d)), some (.lst true (xs.map Nk.d)), a, b] := by
    show (if (xs.map Nk.d).all isFz = true then fbR 2 (xs.map Nk.d) (forL _ _ (zipD (xs.map Nk.d) (xs.map Nk.d)) [some (ntD false (xs.map Nk.d) hs), some (.lst false (xs.map Nk.d)), none, none, none]) else .bad) = _
    rw [if_pos (all_fz xs), eL]; rfl
  have o : ∀ m, Bn.Ok 2 (.lst m (xs.map Nk.d)) := fun m => ok_lst fun d hd => by
    obtain ⟨y, hy, rfl⟩ := List.mem_map.mp hd
    exact S.ok y hy
  have ee : ∀ m m', gEq (.lst m (xs.map Nk.d)) (.lst m' (xs.map Nk.d)) = some (.bl true) := fun m m' => vEqX (o m) (o m') rfl
  have l1 : (xs.map Nk.d).length < 1000000 := by rw [List.length_map]; have := S.l; omega
  obtain ⟨es', he⟩ : ∃ es', setD (xs.map Nk.d ++ [D.tup [D.str "number", D.int 1, D.int 1]]) 0 (D.tup [D.str "number", D.int 5, D.int 7]) = some es' := by
    unfold setD
    rw [show (xs.map Nk.d ++ [D.tup [D.str "number", D.int 1, D.int 1]]).length = xs.length + 1 by rw [List.length_append, List.length_map]; rfl, show L2.ixN (xs.length + 1) 0 = some 0 by unfold L2.ixN; simp]
    exact ⟨_, rfl⟩
  unfold f__law_listed
  simp (disch := decide) only [m__law_listed, n1, hZ, ee, if_pos l1, he, setIx2, x_seq, x_seq1, x_seq2, x_seq3, x_seq4, x_seq5, x_seq6, x_nil, x_if, x_if1, x_if2, x_if3, x_ret, x_ret1, x_ret2, x_ret3, x_retN, x_asg, x_asg1, x_asg2, x_asg3, x_asg4, x_asg5, x_gN, x_drop, x_drop1, x_drop2, x_bk, x_ct, x_raise, x_tZ, x_tZ1, x_tZ2, x_tE, x_tE1, x_tE2, x_tE3, x_tAnd, x_tAnd1, x_tAnd2, x_tAnd3, x_tOr, x_tOr1, x_tOr2, x_tOr3, x_tNot, x_tNot1, x_tNot2, x_tNot3, x_tTrue, x_z2, x_z21, x_z1, x_z11, x_zC, x_zC1, x_za, x_za1, x_za0, x_zV, x_zK, x_ch, x_ch1, x_ch2, x_eZ, x_eZ1, x_eZ2, x_eV, x_eV1, x_eM, x_eM1, x_b1, x_b2, x_b3, x_s1, x_s2, x_s3, x_oO, x_oO2, x_e2, x_e1, x_eC, x_aN, x_aC, x_tup, x_lst, x_call, x_oC1, x_oC2, x_call0, x_call01, x_eAnd, x_eAnd1, x_eOr, x_eOr1, x_eNot, x_eNot1, x_eIf, x_eIf1, x_fz_int, x_fr_int, x_fz_bl, x_fr_bl, x_fz_str, x_fr_str, x_fz_ty, x_fr_ty, x_fz_tup, x_fr_tup, x_fz_cst, x_fr_cst, x_fz_lst_false, x_fr_lst_false, x_fz_non, x_fr_non, x_fz_lt, x_fr_lt, x_fL0, x_fL1, x_cF, x_cR1, x_cR2, x_cR3, x_iL, x_iL1, x_iT, x_iT1, x_iS, x_iS1, x_iR1, x_iR11, x_iR2, x_iR21, x_iE, x_iE1, x_iV, x_iV1, x_iZ, x_iZ1, x_for, x_fo0, x_fo1, x_fo2, x_fo3, x_fo4, x_fo5, x_fo6, x_fo7, x_gT, x_gC, x_gC0, x_try, x_try1, x_try2, x_try3, x_try4, x_try5, x_nx1, x_nx2, x_try6, x_try7, x_nx3, x_nx4, x_app, x_app1, x_app2, x_lc, x_lcE, x_lc0, x_lc1, x_lcG, x_w0, x_w1, vMinL4, vMaxL4, vAll3, vAny3, vAll4, vAny4, x_wh1, x_wh2, x_wh0, x_abs, vI_ii, vI_ib, vI_it, vI_il, vI_is, vI_bb, vI_bi, vI_tt, vI_tl, vI_ti, vI_ll, vI_lt, vI_ss, vEqB, vNeB, x_ta, x_ta1, x_ta2, x_ta3, x_ta4, x_ta5, x_is, nc_0, nc_1, nc_2, nc_3, nc_4, nc_5, nc_6, nc_7, nc_8, nc_9, nc_10, nc_11, vMax2, vMin2, vIsN0, vIsN1, vNotN0, vNotN1, vIsN2, vNotN2, x_lo, x_lo1, x_lo2, vAll2, vAny2, x_sl, x_sl1, x_sl2, x_pn, x_ps, x_ps1, x_cutL, x_cutC, vEqS, vNeS, x_fz_obj, x_fr_obj, x_make, x_meth, x_meth2, x_meth3, x_isO, x_isO1, x_cat, x_cat1, x_methZ, x_methZ2, x_methZ3, x_callZ, x_callZ1, x_lend1, x_lend2, x_cl_int, x_cl_bl, x_cl_str, x_cl_non, x_cl_tup, x_cl0, x_cl1, x_cl_lst, x_setIx, x_setIx1, x_setIx2, x_callI, x_callI1, x_callI2, x_callI3, x_take0, x_take1, x_take2, x_put0, x_put1, x_cFI, x_cRI1, x_cRI2, x_outR, x_outR1, x_out1, x_out2, x_par, x_par1, x_sort, x_sort1, x_sort2, x_io2, x_io4, vIsB, x_pop, x_lr, x_lr1, x_clr, x_clr1, x_clrE, x_clrE1, x_pop1, x_pop2, x_ins, x_ins1, x_ins2, x_sk, x_sk1, x_sk2, x_sk3, x_ck, x_ck1, x_lk, x_lk1, x_iK, x_iK1, x_forB, x_fbD, x_fbR, x_fbR2, x_fzE, vInt1, vInt2, x_tupO, x_tupO1, x_tupO2, x_e2Z, x_e2Z1, x_appF, x_appF1, x_appF2, x_appF3, x_setF, x_setF1, x_setF2, x_setF3, x_setFd, x_setFd1, x_makeI, x_makeI1, x_methI, x_methI1, x_methI2, x_mz0, x_mz01, x_mz02, x_mz03, x_m0, x_m01, x_m02, x_m03, x_fz_objt, x_fr_objt, List.all_cons, List.all_nil, Option.isSome_some, Option.map_some, List.getD_cons_zero, List.getD_cons_succ, List.set_cons_zero, List.set_cons_succ, List.map_cons, List.map_nil, List.replicate_zero, List.replicate_succ, List.length_cons, List.length_nil, List.cons_append, List.nil_append, Option.bind_some, if_true, if_false, Bool.false_eq_true, Nat.reduceSub, Nat.reduceAdd, Nat.reduceLeDiff, Nat.reduceLT, vAdd, vSub, vLt, vLe, vGt, vGe, vNeg, vEq, vNe, vEq2, vNe2, vMod, vDiv, vMul, vPow, Int.reduceToNat, vIx0, vIx1, vLenT, vLenC, vLenL, reduceIte, decide_true, decide_false, Bool.not_true, Bool.not_false, beq_self_eq_true, Bool.and_true, Bool.true_and, Bool.and_self, Bool.and_false, Bool.false_and]
  done
theorem vIxC0 {d : D} {ds : List D} : gIx (.cst (d :: ds)) (.int 0) = some d := by
  show L2.atI (d :: ds) 0 = some d
  exact atI_of (k := 0) rfl
theorem cell0 (ns : List Int) : ∃ c : Int, f__law_cell_at [.cst (ns.map D.int), .int 0] = .ok (.int c) := by
  cases ns with
  | nil => exact ⟨0, by simp (disch := decide) only [f__law_cell_at, m__law_cell_at, List.map_nil, x_seq, x_seq1, x_seq2, x_seq3, x_seq4, x_seq5, x_seq6, x_nil, x_if, x_if1, x_if2, x_if3, x_ret, x_ret1, x_ret2, x_ret3, x_retN, x_asg, x_asg1, x_asg2, x_asg3, x_asg4, x_asg5, x_gN, x_drop, x_drop1, x_drop2, x_bk, x_ct, x_raise, x_tZ, x_tZ1, x_tZ2, x_tE, x_tE1, x_tE2, x_tE3, x_tAnd, x_tAnd1, x_tAnd2, x_tAnd3, x_tOr, x_tOr1, x_tOr2, x_tOr3, x_tNot, x_tNot1, x_tNot2, x_tNot3, x_tTrue, x_z2, x_z21, x_z1, x_z11, x_zC, x_zC1, x_za, x_za1, x_za0, x_zV, x_zK, x_ch, x_ch1, x_ch2, x_eZ, x_eZ1, x_eZ2, x_eV, x_eV1, x_eM, x_eM1, x_b1, x_b2, x_b3, x_s1, x_s2, x_s3, x_oO, x_oO2, x_e2, x_e1, x_eC, x_aN, x_aC, x_tup, x_lst, x_call, x_oC1, x_oC2, x_call0, x_call01, x_eAnd, x_eAnd1, x_eOr, x_eOr1, x_eNot, x_eNot1, x_eIf, x_eIf1, x_fz_int, x_fr_int, x_fz_bl, x_fr_bl, x_fz_str, x_fr_str, x_fz_ty, x_fr_ty, x_fz_tup, x_fr_tup, x_fz_cst, x_fr_cst, x_fz_lst_false, x_fr_lst_false, x_fz_non, x_fr_non, x_fz_lt, x_fr_lt, x_fL0, x_fL1, x_cF, x_cR1, x_cR2, x_cR3, x_iL, x_iL1, x_iT, x_iT1, x_iS, x_iS1, x_iR1, x_iR11, x_iR2, x_iR21, x_iE, x_iE1, x_iV, x_iV1, x_iZ, x_iZ1, x_for, x_fo0, x_fo1, x_fo2, x_fo3, x_fo4, x_fo5, x_fo6, x_fo7, x_gT, x_gC, x_gC0, x_try, x_try1, x_try2, x_try3, x_try4, x_try5, x_nx1, x_nx2, x_try6, x_try7, x_nx3, x_nx4, x_app, x_app1, x_app2, x_lc, x_lcE, x_lc0, x_lc1, x_lcG, x_w0, x_w1, vMinL4, vMaxL4, vAll3, vAny3, vAll4, vAny4, x_wh1, x_wh2, x_wh0, x_abs, vI_ii, vI_ib, vI_it, vI_il, vI_is, vI_bb, vI_bi, vI_tt, vI_tl, vI_ti, vI_ll, vI_lt, vI_ss, vEqB, vNeB, x_ta, x_ta1, x_ta2, x_ta3, x_ta4, x_ta5, x_is, nc_0, nc_1, nc_2, nc_3, nc_4, nc_5, nc_6, nc_7, nc_8, nc_9, nc_10, nc_11, vMax2, vMin2, vIsN0, vIsN1, vNotN0, vNotN1, vIsN2, vNotN2, x_lo, x_lo1, x_lo2, vAll2, vAny2, x_sl, x_sl1, x_sl2, x_pn, x_ps, x_ps1, x_cutL, x_cutC, vEqS, vNeS, x_fz_obj, x_fr_obj, x_make, x_meth, x_meth2, x_meth3, x_isO, x_isO1, x_cat, x_cat1, x_methZ, x_methZ2, x_methZ3, x_callZ, x_callZ1, x_lend1, x_lend2, x_cl_int, x_cl_bl, x_cl_str, x_cl_non, x_cl_tup, x_cl0, x_cl1, x_cl_lst, x_setIx, x_setIx1, x_setIx2, x_callI, x_callI1, x_callI2, x_callI3, x_take0, x_take1, x_take2, x_put0, x_put1, x_cFI, x_cRI1, x_cRI2, x_outR, x_outR1, x_out1, x_out2, x_par, x_par1, x_sort, x_sort1, x_sort2, x_io2, x_io4, vIsB, x_pop, x_lr, x_lr1, x_clr, x_clr1, x_clrE, x_clrE1, x_pop1, x_pop2, x_ins, x_ins1, x_ins2, x_sk, x_sk1, x_sk2, x_sk3, x_ck, x_ck1, x_lk, x_lk1, x_iK, x_iK1, x_forB, x_fbD, x_fbR, x_fbR2, x_fzE, vInt1, vInt2, x_tupO, x_tupO1, x_tupO2, x_e2Z, x_e2Z1, x_appF, x_appF1, x_appF2, x_appF3, x_setF, x_setF1, x_setF2, x_setF3, x_setFd, x_setFd1, x_makeI, x_makeI1, x_methI, x_methI1, x_methI2, x_mz0, x_mz01, x_mz02, x_mz03, x_m0, x_m01, x_m02, x_m03, x_fz_objt, x_fr_objt, List.all_cons, List.all_nil, Option.isSome_some, Option.map_some, List.getD_cons_zero, List.getD_cons_succ, List.set_cons_zero, List.set_cons_succ, List.map_cons, List.map_nil, List.replicate_zero, List.replicate_succ, List.length_cons, List.length_nil, List.cons_append, List.nil_append, Option.bind_some, if_true, if_false, Bool.false_eq_true, Nat.reduceSub, Nat.reduceAdd, Nat.reduceLeDiff, Nat.reduceLT, vAdd, vSub, vLt, vLe, vGt, vGe, vNeg, vEq, vNe, vEq2, vNe2, vMod, vDiv, vMul, vPow, Int.reduceToNat, vIx0, vIx1, vLenT, vLenC, vLenL, reduceIte, decide_true, decide_false, Bool.not_true, Bool.not_false, beq_self_eq_true, Bool.and_true, Bool.true_and, Bool.and_self, Bool.and_false, Bool.false_and]; rfl⟩
  | cons x xs =>
    have g : gIx (.cst (D.int x :: xs.map D.int)) (.int 0) = some (.int x) := vIxC0
    have l : decide ((0 : Int) < (((xs.map D.int).length + 1 : Nat) : Int)) = true := decide_eq_true (by omega)
    exact ⟨x, by simp (disch := decide) only [f__law_cell_at, m__law_cell_at, List.map_cons, List.length_cons, g, l, if_true, x_seq, x_seq1, x_seq2, x_seq3, x_seq4, x_seq5, x_seq6, x_nil, x_if, x_if1, x_if2, x_if3, x_ret, x_ret1, x_ret2, x_ret3, x_retN, x_asg, x_asg1, x_asg2, x_asg3, x_asg4, x_asg5, x_gN, x_drop, x_drop1, x_drop2, x_bk, x_ct, x_raise, x_tZ, x_tZ1, x_tZ2, x_tE, x_tE1, x_tE2, x_tE3, x_tAnd, x_tAnd1, x_tAnd2, x_tAnd3, x_tOr, x_tOr1, x_tOr2, x_tOr3, x_tNot, x_tNot1, x_tNot2, x_tNot3, x_tTrue, x_z2, x_z21, x_z1, x_z11, x_zC, x_zC1, x_za, x_za1, x_za0, x_zV, x_zK, x_ch, x_ch1, x_ch2, x_eZ, x_eZ1, x_eZ2, x_eV, x_eV1, x_eM, x_eM1, x_b1, x_b2, x_b3, x_s1, x_s2, x_s3, x_oO, x_oO2, x_e2, x_e1, x_eC, x_aN, x_aC, x_tup, x_lst, x_call, x_oC1, x_oC2, x_call0, x_call01, x_eAnd, x_eAnd1, x_eOr, x_eOr1, x_eNot, x_eNot1, x_eIf, x_eIf1, x_fz_int, x_fr_int, x_fz_bl, x_fr_bl, x_fz_str, x_fr_str, x_fz_ty, x_fr_ty, x_fz_tup, x_fr_tup, x_fz_cst, x_fr_cst, x_fz_lst_false, x_fr_lst_false, x_fz_non, x_fr_non, x_fz_lt, x_fr_lt, x_fL0, x_fL1, x_cF, x_cR1, x_cR2, x_cR3, x_iL, x_iL1, x_iT, x_iT1, x_iS, x_iS1, x_iR1, x_iR11, x_iR2, x_iR21, x_iE, x_iE1, x_iV, x_iV1, x_iZ, x_iZ1, x_for, x_fo0, x_fo1, x_fo2, x_fo3, x_fo4, x_fo5, x_fo6, x_fo7, x_gT, x_gC, x_gC0, x_try, x_try1, x_try2, x_try3, x_try4, x_try5, x_nx1, x_nx2, x_try6, x_try7, x_nx3, x_nx4, x_app, x_app1, x_app2, x_lc, x_lcE, x_lc0, x_lc1, x_lcG, x_w0, x_w1, vMinL4, vMaxL4, vAll3, vAny3, vAll4, vAny4, x_wh1, x_wh2, x_wh0, x_abs, vI_ii, vI_ib, vI_it, vI_il, vI_is, vI_bb, vI_bi, vI_tt, vI_tl, vI_ti, vI_ll, vI_lt, vI_ss, vEqB, vNeB, x_ta, x_ta1, x_ta2, x_ta3, x_ta4, x_ta5, x_is, nc_0, nc_1, nc_2, nc_3, nc_4, nc_5, nc_6, nc_7, nc_8, nc_9, nc_10, nc_11, vMax2, vMin2, vIsN0, vIsN1, vNotN0, vNotN1, vIsN2, vNotN2, x_lo, x_lo1, x_lo2, vAll2, vAny2, x_sl, x_sl1, x_sl2, x_pn, x_ps, x_ps1, x_cutL, x_cutC, vEqS, vNeS, x_fz_obj, x_fr_obj, x_make, x_meth, x_meth2, x_meth3, x_isO, x_isO1, x_cat, x_cat1, x_methZ, x_methZ2, x_methZ3, x_callZ, x_callZ1, x_lend1, x_lend2, x_cl_int, x_cl_bl, x_cl_str, x_cl_non, x_cl_tup, x_cl0, x_cl1, x_cl_lst, x_setIx, x_setIx1, x_setIx2, x_callI, x_callI1, x_callI2, x_callI3, x_take0, x_take1, x_take2, x_put0, x_put1, x_cFI, x_cRI1, x_cRI2, x_outR, x_outR1, x_out1, x_out2, x_par, x_par1, x_sort, x_sort1, x_sort2, x_io2, x_io4, vIsB, x_pop, x_lr, x_lr1, x_clr, x_clr1, x_clrE, x_clrE1, x_pop1, x_pop2, x_ins, x_ins1, x_ins2, x_sk, x_sk1, x_sk2, x_sk3, x_ck, x_ck1, x_lk, x_lk1, x_iK, x_iK1, x_forB, x_fbD, x_fbR, x_fbR2, x_fzE, vInt1, vInt2, x_tupO, x_tupO1, x_tupO2, x_e2Z, x_e2Z1, x_appF, x_appF1, x_appF2, x_appF3, x_setF, x_setF1, x_setF2, x_setF3, x_setFd, x_setFd1, x_makeI, x_makeI1, x_methI, x_methI1, x_methI2, x_mz0, x_mz01, x_mz02, x_mz03, x_m0, x_m01, x_m02, x_m03, x_fz_objt, x_fr_objt, List.all_cons, List.all_nil, Option.isSome_some, Option.map_some, List.getD_cons_zero, List.getD_cons_succ, List.set_cons_zero, List.set_cons_succ, List.map_cons, List.map_nil, List.replicate_zero, List.replicate_succ, List.length_cons, List.length_nil, List.cons_append, List.nil_append, Option.bind_some, if_true, if_false, Bool.false_eq_true, Nat.reduceSub, Nat.reduceAdd, Nat.reduceLeDiff, Nat.reduceLT, vAdd, vSub, vLt, vLe, vGt, vGe, vNeg, vEq, vNe, vEq2, vNe2, vMod, vDiv, vMul, vPow, Int.reduceToNat, vIx0, vIx1, vLenT, vLenC, vLenL, reduceIte, decide_true, decide_false, Bool.not_true, Bool.not_false, beq_self_eq_true, Bool.and_true, Bool.true_and, Bool.and_self, Bool.and_false, Bool.false_and]⟩
theorem rng_int {n : Nat} {i : Int} {d : D} (h : d ∈ rangeD i n) : ∃ k : Int, d = .int k := by
  unfold rangeD at h
  obtain ⟨k, _, rfl⟩ := List.mem_map.mp h
  exact ⟨_, rfl⟩
theorem a5 {sc : D} {c : Int} (hc : f__law_cell_at [sc, .int 0] = .ok (.int c)) (hs : freeze sc = sc) (hz : isFz sc = true) : ∀ τ, PL sc τ → ∃ τ', (sIf (tE (e2 gEq (e2 gMod (eCall f__law_cell_at (aCons (eVar 0) (aCons (eZ (zC (.int 0))) aNil))) (eZ (zC (.int 3)))) (eZ (zC (.int 1))))) (sFor (iR1 (aCons (e2 gAdd (eZ (zC (.int 50))) (e2 gMod (e2 gDiv (eCall f__law_cell_at (aCons (eVar 0) (aCons (eZ (zC (.int 0))) aNil))) (eZ (zC (.int 3)))) (eZ (zC (.int 14))))) aNil)) (gN 5) (sIf (tNot (tE (eCallI f__law_step [1, 3, 4] (aCons (eTup (aCons (eZ (zC (.str "number"))) (aCons (eZ (z2 gSub (zVar 5) (zC (.int 7)))) (aCons (eZ (zC (.int 1))) aNil)))) aNil)))) (sRet (eZ (zC (.bl false)))) sNil)) sNil) τ = .nx τ' ∧ PL sc τ' := by
  rintro τ ⟨xs, hs', b5, b6, S, rfl⟩
  have P : PL sc [some sc, some (ntD true (xs.map Nk.d) hs'), some (ntD true [] []), some (nsD xs), some (hsD hs'), b5, b6, none, none, none] := ⟨xs, hs', b5, b6, S, rfl⟩
  by_cases h : c % 3 = 1
  · obtain ⟨τ', e, p⟩ := loop_ok (g := gN 5) (b := (sIf (tNot (tE (eCallI f__law_step [1, 3, 4] (aCons (eTup (aCons (eZ (zC (.str "number"))) (aCons (eZ (z2 gSub (zVar 5) (zC (.int 7)))) (aCons (eZ (zC (.int 1))) aNil)))) aNil)))) (sRet (eZ (zC (.bl false)))) sNil)) (ds := rangeD 0 (50 + c / 3 % 14).toNat) P (fun d hd => by
      obtain ⟨k, rfl⟩ := rng_int hd
      exact turn1)
    refine ⟨τ', ?_, p⟩
    simp (disch := decide) only [hc, hs, hz, if_true, bt h, x_seq, x_seq1, x_seq2, x_seq3, x_seq4, x_seq5, x_seq6, x_nil, x_if, x_if1, x_if2, x_if3, x_ret, x_ret1, x_ret2, x_ret3, x_retN, x_asg, x_asg1, x_asg2, x_asg3, x_asg4, x_asg5, x_gN, x_drop, x_drop1, x_drop2, x_bk, x_ct, x_raise, x_tZ, x_tZ1, x_tZ2, x_tE, x_tE1, x_tE2, x_tE3, x_tAnd, x_tAnd1, x_tAnd2, x_tAnd3, x_tOr, x_tOr1, x_tOr2, x_tOr3, x_tNot, x_tNot1, x_tNot2, x_tNot3, x_tTrue, x_z2, x_z21, x_z1, x_z11, x_zC, x_zC1, x_za, x_za1, x_za0, x_zV, x_zK, x_ch, x_ch1, x_ch2, x_eZ, x_eZ1, x_eZ2, x_eV, x_eV1, x_eM, x_eM1, x_b1, x_b2, x_b3, x_s1, x_s2, x_s3, x_oO, x_oO2, x_e2, x_e1, x_eC, x_aN, x_aC, x_tup, x_lst, x_call, x_oC1, x_oC2, x_call0, x_call01, x_eAnd, x_eAnd1, x_eOr, x_eOr1, x_eNot, x_eNot1, x_eIf, x_eIf1, x_fz_int, x_fr_int, x_fz_bl, x_fr_bl, x_fz_str, x_fr_str, x_fz_ty, x_fr_ty, x_fz_tup, x_fr_tup, x_fz_cst, x_fr_cst, x_fz_lst_false, x_fr_lst_false, x_fz_non, x_fr_non, x_fz_lt, x_fr_lt, x_fL0, x_fL1, x_cF, x_cR1, x_cR2, x_cR3, x_iL, x_iL1, x_iT, x_iT1, x_iS, x_iS1, x_iR1, x_iR11, x_iR2, x_iR21, x_iE, x_iE1, x_iV, x_iV1, x_iZ, x_iZ1, x_for, x_fo0, x_fo1, x_fo2, x_fo3, x_fo4, x_fo5, x_fo6, x_fo7, x_gT, x_gC, x_gC0, x_try, x_try1, x_try2, x_try3, x_try4, x_try5, x_nx1, x_nx2, x_try6, x_try7, x_nx3, x_nx4, x_app, x_app1, x_app2, x_lc, x_lcE, x_lc0, x_lc1, x_lcG, x_w0, x_w1, vMinL4, vMaxL4, vAll3, vAny3, vAll4, vAny4, x_wh1, x_wh2, x_wh0, x_abs, vI_ii, vI_ib, vI_it, vI_il, vI_is, vI_bb, vI_bi, vI_tt, vI_tl, vI_ti, vI_ll, vI_lt, vI_ss, vEqB, vNeB, x_ta, x_ta1, x_ta2, x_ta3, x_ta4, x_ta5, x_is, nc_0, nc_1, nc_2, nc_3, nc_4, nc_5, nc_6, nc_7, nc_8, nc_9, nc_10, nc_11, vMax2, vMin2, vIsN0, vIsN1, vNotN0, vNotN1, vIsN2, vNotN2, x_lo, x_lo1, x_lo2, vAll2, vAny2, x_sl, x_sl1, x_sl2, x_pn, x_ps, x_ps1, x_cutL, x_cutC, vEqS, vNeS, x_fz_obj, x_fr_obj, x_make, x_meth, x_meth2, x_meth3, x_isO, x_isO1, x_cat, x_cat1, x_methZ, x_methZ2, x_methZ3, x_callZ, x_callZ1, x_lend1, x_lend2, x_cl_int, x_cl_bl, x_cl_str, x_cl_non, x_cl_tup, x_cl0, x_cl1, x_cl_lst, x_setIx, x_setIx1, x_setIx2, x_callI, x_callI1, x_callI2, x_callI3, x_take0, x_take1, x_take2, x_put0, x_put1, x_cFI, x_cRI1, x_cRI2, x_outR, x_outR1, x_out1, x_out2, x_par, x_par1, x_sort, x_sort1, x_sort2, x_io2, x_io4, vIsB, x_pop, x_lr, x_lr1, x_clr, x_clr1, x_clrE, x_clrE1, x_pop1, x_pop2, x_ins, x_ins1, x_ins2, x_sk, x_sk1, x_sk2, x_sk3, x_ck, x_ck1, x_lk, x_lk1, x_iK, x_iK1, x_forB, x_fbD, x_fbR, x_fbR2, x_fzE, vInt1, vInt2, x_tupO, x_tupO1, x_tupO2, x_e2Z, x_e2Z1, x_appF, x_appF1, x_appF2, x_appF3, x_setF, x_setF1, x_setF2, x_setF3, x_setFd, x_setFd1, x_makeI, x_makeI1, x_methI, x_methI1, x_methI2, x_mz0, x_mz01, x_mz02, x_mz03, x_m0, x_m01, x_m02, x_m03, x_fz_objt, x_fr_objt, List.all_cons, List.all_nil, Option.isSome_some, Option.map_some, List.getD_cons_zero, List.getD_cons_succ, List.set_cons_zero, List.set_cons_succ, List.map_cons, List.map_nil, List.replicate_zero, List.replicate_succ, List.length_cons, List.length_nil, List.cons_append, List.nil_append, Option.bind_some, if_true, if_false, Bool.false_eq_true, Nat.reduceSub, Nat.reduceAdd, Nat.reduceLeDiff, Nat.reduceLT, vAdd, vSub, vLt, vLe, vGt, vGe, vNeg, vEq, vNe, vEq2, vNe2, vMod, vDiv, vMul, vPow, Int.reduceToNat, vIx0, vIx1, vLenT, vLenC, vLenL, reduceIte, decide_true, decide_false, Bool.not_true, Bool.not_false, beq_self_eq_true, Bool.and_true, Bool.true_and, Bool.and_self, Bool.and_false, Bool.false_and]
    rw [x_iR11 (by omega) (by omega)]
    exact e
  · refine ⟨_, ?_, P⟩
    simp (disch := decide) only [hc, hs, hz, if_true, bf h, x_seq, x_seq1, x_seq2, x_seq3, x_seq4, x_seq5, x_seq6, x_nil, x_if, x_if1, x_if2, x_if3, x_ret, x_ret1, x_ret2, x_ret3, x_retN, x_asg, x_asg1, x_asg2, x_asg3, x_asg4, x_asg5, x_gN, x_drop, x_drop1, x_drop2, x_bk, x_ct, x_raise, x_tZ, x_tZ1, x_tZ2, x_tE, x_tE1, x_tE2, x_tE3, x_tAnd, x_tAnd1, x_tAnd2, x_tAnd3, x_tOr, x_tOr1, x_tOr2, x_tOr3, x_tNot, x_tNot1, x_tNot2, x_tNot3, x_tTrue, x_z2, x_z21, x_z1, x_z11, x_zC, x_zC1, x_za, x_za1, x_za0, x_zV, x_zK, x_ch, x_ch1, x_ch2, x_eZ, x_eZ1, x_eZ2, x_eV, x_eV1, x_eM, x_eM1, x_b1, x_b2, x_b3, x_s1, x_s2, x_s3, x_oO, x_oO2, x_e2, x_e1, x_eC, x_aN, x_aC, x_tup, x_lst, x_call, x_oC1, x_oC2, x_call0, x_call01, x_eAnd, x_eAnd1, x_eOr, x_eOr1, x_eNot, x_eNot1, x_eIf, x_eIf1, x_fz_int, x_fr_int, x_fz_bl, x_fr_bl, x_fz_str, x_fr_str, x_fz_ty, x_fr_ty, x_fz_tup, x_fr_tup, x_fz_cst, x_fr_cst, x_fz_lst_false, x_fr_lst_false, x_fz_non, x_fr_non, x_fz_lt, x_fr_lt, x_fL0, x_fL1, x_cF, x_cR1, x_cR2, x_cR3, x_iL, x_iL1, x_iT, x_iT1, x_iS, x_iS1, x_iR1, x_iR11, x_iR2, x_iR21, x_iE, x_iE1, x_iV, x_iV1, x_iZ, x_iZ1, x_for, x_fo0, x_fo1, x_fo2, x_fo3, x_fo4, x_fo5, x_fo6, x_fo7, x_gT, x_gC, x_gC0, x_try, x_try1, x_try2, x_try3, x_try4, x_try5, x_nx1, x_nx2, x_try6, x_try7, x_nx3, x_nx4, x_app, x_app1, x_app2, x_lc, x_lcE, x_lc0, x_lc1, x_lcG, x_w0, x_w1, vMinL4, vMaxL4, vAll3, vAny3, vAll4, vAny4, x_wh1, x_wh2, x_wh0, x_abs, vI_ii, vI_ib, vI_it, vI_il, vI_is, vI_bb, vI_bi, vI_tt, vI_tl, vI_ti, vI_ll, vI_lt, vI_ss, vEqB, vNeB, x_ta, x_ta1, x_ta2, x_ta3, x_ta4, x_ta5, x_is, nc_0, nc_1, nc_2, nc_3, nc_4, nc_5, nc_6, nc_7, nc_8, nc_9, nc_10, nc_11, vMax2, vMin2, vIsN0, vIsN1, vNotN0, vNotN1, vIsN2, vNotN2, x_lo, x_lo1, x_lo2, vAll2, vAny2, x_sl, x_sl1, x_sl2, x_pn, x_ps, x_ps1, x_cutL, x_cutC, vEqS, vNeS, x_fz_obj, x_fr_obj, x_make, x_meth, x_meth2, x_meth3, x_isO, x_isO1, x_cat, x_cat1, x_methZ, x_methZ2, x_methZ3, x_callZ, x_callZ1, x_lend1, x_lend2, x_cl_int, x_cl_bl, x_cl_str, x_cl_non, x_cl_tup, x_cl0, x_cl1, x_cl_lst, x_setIx, x_setIx1, x_setIx2, x_callI, x_callI1, x_callI2, x_callI3, x_take0, x_take1, x_take2, x_put0, x_put1, x_cFI, x_cRI1, x_cRI2, x_outR, x_outR1, x_out1, x_out2, x_par, x_par1, x_sort, x_sort1, x_sort2, x_io2, x_io4, vIsB, x_pop, x_lr, x_lr1, x_clr, x_clr1, x_clrE, x_clrE1, x_pop1, x_pop2, x_ins, x_ins1, x_ins2, x_sk, x_sk1, x_sk2, x_sk3, x_ck, x_ck1, x_lk, x_lk1, x_iK, x_iK1, x_forB, x_fbD, x_fbR, x_fbR2, x_fzE, vInt1, vInt2, x_tupO, x_tupO1, x_tupO2, x_e2Z, x_e2Z1, x_appF, x_appF1, x_appF2, x_appF3, x_setF, x_setF1, x_setF2, x_setF3, x_setFd, x_setFd1, x_makeI, x_makeI1, x_methI, x_methI1, x_methI2, x_mz0, x_mz01, x_mz02, x_mz03, x_m0, x_m01, x_m02, x_m03, x_fz_objt, x_fr_objt, List.all_cons, List.all_nil, Option.isSome_some, Option.map_some, List.getD_cons_zero, List.getD_cons_succ, List.set_cons_zero, List.set_cons_succ, List.map_cons, List.map_nil, List.replicate_zero, List.replicate_succ, List.length_cons, List.length_nil, List.cons_append, List.nil_append, Option.bind_some, if_true, if_false, Bool.false_eq_true, Nat.reduceSub, Nat.reduceAdd, Nat.reduceLeDiff, Nat.reduceLT, vAdd, vSub, vLt, vLe, vGt, vGe, vNeg, vEq, vNe, vEq2, vNe2, vMod, vDiv, vMul, vPow, Int.reduceToNat, vIx0, vIx1, vLenT, vLenC, vLenL, reduceIte, decide_true, decide_false, Bool.not_true, Bool.not_false, beq_self_eq_true, Bool.and_true, Bool.true_and, Bool.and_self, Bool.and_false, Bool.false_and]
    done
theorem a6 {ns : List Int} : ∀ τ, PL (.cst (ns.map D.int)) τ → ∃ τ', (sFor (iL (eSlice cutLd (eVar 0) (pSome (eZ (zC (.int 1)))) (pSome (eZ (zC (.int 61)))))) (gN 6) (sIf (tNot (tE (eCallI f__law_step [1, 3, 4] (aCons (eCall f__law_node (aCons (eZ (z2 gMod (zVar 6) (z2 gPow (zC (.int 10)) (zC (.int 9))))) (aCons (eZ (zC' gLen (zaCons (zVar 3) zaNil))) aNil))) aNil)))) (sRet (eZ (zC (.bl false)))) sNil)) τ = .nx τ' ∧ PL (.cst (ns.map D.int)) τ' := by
  rintro τ ⟨xs, hs', b5, b6, S, rfl⟩
  have P : PL (.cst (ns.map D.int)) [some (.cst (ns.map D.int)), some (ntD true (xs.map Nk.d) hs'), some (ntD true [] []), some (nsD xs), some (hsD hs'), b5, b6, none, none, none] := ⟨xs, hs', b5, b6, S, rfl⟩
  have all : ∀ ds : List D, (∀ d ∈ ds, ∃ c, d = D.int c) → ∃ τ', forL (gN 6) (sIf (tNot (tE (eCallI f__law_step [1, 3, 4] (aCons (eCall f__law_node (aCons (eZ (z2 gMod (zVar 6) (z2 gPow (zC (.int 10)) (zC (.int 9))))) (aCons (eZ (zC' gLen (zaCons (zVar 3) zaNil))) aNil))) aNil)))) (sRet (eZ (zC (.bl false)))) sNil) ds [some (.cst (ns.map D.int)), some (ntD true (xs.map Nk.d) hs'), some (ntD true [] []), some (nsD xs), some (hsD hs'), b5, b6, none, none, none] = .nx τ' ∧ PL (.cst (ns.map D.int)) τ' := fun ds h => loop_ok P fun d hd => by
    obtain ⟨c, rfl⟩ := h d hd
    exact turn2
  simp (disch := decide) only [x_seq, x_seq1, x_seq2, x_seq3, x_seq4, x_seq5, x_seq6, x_nil, x_if, x_if1, x_if2, x_if3, x_ret, x_ret1, x_ret2, x_ret3, x_retN, x_asg, x_asg1, x_asg2, x_asg3, x_asg4, x_asg5, x_gN, x_drop, x_drop1, x_drop2, x_bk, x_ct, x_raise, x_tZ, x_tZ1, x_tZ2, x_tE, x_tE1, x_tE2, x_tE3, x_tAnd, x_tAnd1, x_tAnd2, x_tAnd3, x_tOr, x_tOr1, x_tOr2, x_tOr3, x_tNot, x_tNot1, x_tNot2, x_tNot3, x_tTrue, x_z2, x_z21, x_z1, x_z11, x_zC, x_zC1, x_za, x_za1, x_za0, x_zV, x_zK, x_ch, x_ch1, x_ch2, x_eZ, x_eZ1, x_eZ2, x_eV, x_eV1, x_eM, x_eM1, x_b1, x_b2, x_b3, x_s1, x_s2, x_s3, x_oO, x_oO2, x_e2, x_e1, x_eC, x_aN, x_aC, x_tup, x_lst, x_call, x_oC1, x_oC2, x_call0, x_call01, x_eAnd, x_eAnd1, x_eOr, x_eOr1, x_eNot, x_eNot1, x_eIf, x_eIf1, x_fz_int, x_fr_int, x_fz_bl, x_fr_bl, x_fz_str, x_fr_str, x_fz_ty, x_fr_ty, x_fz_tup, x_fr_tup, x_fz_cst, x_fr_cst, x_fz_lst_false, x_fr_lst_false, x_fz_non, x_fr_non, x_fz_lt, x_fr_lt, x_fL0, x_fL1, x_cF, x_cR1, x_cR2, x_cR3, x_iL, x_iL1, x_iT, x_iT1, x_iS, x_iS1, x_iR1, x_iR11, x_iR2, x_iR21, x_iE, x_iE1, x_iV, x_iV1, x_iZ, x_iZ1, x_for, x_fo0, x_fo1, x_fo2, x_fo3, x_fo4, x_fo5, x_fo6, x_fo7, x_gT, x_gC, x_gC0, x_try, x_try1, x_try2, x_try3, x_try4, x_try5, x_nx1, x_nx2, x_try6, x_try7, x_nx3, x_nx4, x_app, x_app1, x_app2, x_lc, x_lcE, x_lc0, x_lc1, x_lcG, x_w0, x_w1, vMinL4, vMaxL4, vAll3, vAny3, vAll4, vAny4, x_wh1, x_wh2, x_wh0, x_abs, vI_ii, vI_ib, vI_it, vI_il, vI_is, vI_bb, vI_bi, vI_tt, vI_tl, vI_ti, vI_ll, vI_lt, vI_ss, vEqB, vNeB, x_ta, x_ta1, x_ta2, x_ta3, x_ta4, x_ta5, x_is, nc_0, nc_1, nc_2, nc_3, nc_4, nc_5, nc_6, nc_7, nc_8, nc_9, nc_10, nc_11, vMax2, vMin2, vIsN0, vIsN1, vNotN0, vNotN1, vIsN2, vNotN2, x_lo, x_lo1, x_lo2, vAll2, vAny2, x_sl, x_sl1, x_sl2, x_pn, x_ps, x_ps1, x_cutL, x_cutC, vEqS, vNeS, x_fz_obj, x_fr_obj, x_make, x_meth, x_meth2, x_meth3, x_isO, x_isO1, x_cat, x_cat1, x_methZ, x_methZ2, x_methZ3, x_callZ, x_callZ1, x_lend1, x_lend2, x_cl_int, x_cl_bl, x_cl_str, x_cl_non, x_cl_tup, x_cl0, x_cl1, x_cl_lst, x_setIx, x_setIx1, x_setIx2, x_callI, x_callI1, x_callI2, x_callI3, x_take0, x_take1, x_take2, x_put0, x_put1, x_cFI, x_cRI1, x_cRI2, x_outR, x_outR1, x_out1, x_out2, x_par, x_par1, x_sort, x_sort1, x_sort2, x_io2, x_io4, vIsB, x_pop, x_lr, x_lr1, x_clr, x_clr1, x_clrE, x_clrE1, x_pop1, x_pop2, x_ins, x_ins1, x_ins2, x_sk, x_sk1, x_sk2, x_sk3, x_ck, x_ck1, x_lk, x_lk1, x_iK, x_iK1, x_forB, x_fbD, x_fbR, x_fbR2, x_fzE, vInt1, vInt2, x_tupO, x_tupO1, x_tupO2, x_e2Z, x_e2Z1, x_appF, x_appF1, x_appF2, x_appF3, x_setF, x_setF1, x_setF2, x_setF3, x_setFd, x_setFd1, x_makeI, x_makeI1, x_methI, x_methI1, x_methI2, x_mz0, x_mz01, x_mz02, x_mz03, x_m0, x_m01, x_m02, x_m03, x_fz_objt, x_fr_objt, List.all_cons, List.all_nil, Option.isSome_some, Option.map_some, List.getD_cons_zero, List.getD_cons_succ, List.set_cons_zero, List.set_cons_succ, List.map_cons, List.map_nil, List.replicate_zero, List.replicate_succ, List.length_cons, List.length_nil, List.cons_append, List.nil_append, Option.bind_some, if_true, if_false, Bool.false_eq_true, Nat.reduceSub, Nat.reduceAdd, Nat.reduceLeDiff, Nat.reduceLT, vAdd, vSub, vLt, vLe, vGt, vGe, vNeg, vEq, vNe, vEq2, vNe2, vMod, vDiv, vMul, vPow, Int.reduceToNat, vIx0, vIx1, vLenT, vLenC, vLenL, reduceIte, decide_true, decide_false, Bool.not_true, Bool.not_false, beq_self_eq_true, Bool.and_true, Bool.true_and, Bool.and_self, Bool.and_false, Bool.false_and]
  exact all _ fun d hd => by
    have e : cutL (ns.map D.int) (some 1) (some 61) = (cutL ns (some 1) (some 61)).map D.int := by unfold cutL; rw [List.length_map, List.map_take, List.map_drop]
    rw [e, fz_map (fun _ => rfl)] at hd
    obtain ⟨c, _, rfl⟩ := List.mem_map.mp hd
    exact ⟨c, rfl⟩
def PW (sc : D) (xs : List Nk) (hs : List Int) (τ : Bn.Env) : Prop := ∃ b5 b6 b7 b8 b9, τ = [some sc, some (ntD false (xs.map Nk.d) hs), some (ntD true [] []), some (.lst false (xs.map Nk.d)), some (.lst false (hs.map D.int)), b5, b6, b7, b8, b9]
theorem turn8 {sc : D} {xs : List Nk} {hs : List Int} {i : Nat} {w : Int} (hi : hs[i]? = some w) : ∀ τ, PW sc xs hs τ → ∃ τ1 τ2, gT 2 (gCons' (gN 7) (gCons' (gN 8) gNil')) (.tup [.int (i : Int), .int w]) τ = some τ1 ∧ (sSeq (sAsg (eMethZ al_weight "weight" (eVar 1) (zaCons (zVar 7) zaNil)) (gN 9)) (sIf (tOr (tNot (tE (eCall f__law_whole (aCons (eVar 9) aNil)))) (tZ (z2 gNe (zVar 9) (zVar 8)))) (sRet (eZ (zC (.bl false)))) sNil)) τ1 = .nx τ2 ∧ PW sc xs hs τ2 := by
  rintro τ ⟨b5, b6, b7, b8, b9, rfl⟩
  have fz := fz_nt false xs hs
  have wo : f_Net_weight [ntD false (xs.map Nk.d) hs, .int (i : Int)] = .ok (.int w) := weight_ok _ _ _ (vIxL_of (k := i) rfl (by rw [List.getElem?_map, hi]; rfl)) rfl
  refine ⟨_, [some sc, some (ntD false (xs.map Nk.d) hs), some (ntD true [] []), some (.lst false (xs.map Nk.d)), some (.lst false (hs.map D.int)), b5, b6, some (.int (i : Int)), some (.int w), some (.int w)], rfl, ?_, ⟨_, _, _, _, _, rfl⟩⟩
  have mz : ∀ τ1 : Bn.Env, (eMethZ al_weight "weight" (eVar 1) (zaCons (zVar 7) zaNil)) (some sc :: some (ntD false (xs.map Nk.d) hs) :: some (ntD true [] []) :: some (.lst false (xs.map Nk.d)) :: some (.lst false (hs.map D.int)) :: b5 :: b6 :: some (.int (i : Int)) :: τ1) = .ok (.int w) (some sc :: some (ntD false (xs.map Nk.d) hs) :: some (ntD true [] []) :: some (.lst false (xs.map Nk.d)) :: some (.lst false (hs.map D.int)) :: b5 :: b6 :: some (.int (i : Int)) :: τ1) := fun τ1 => by
    unfold eMethZ
    simp (disch := decide) only [fz, ite_self, x_seq, x_seq1, x_seq2, x_seq3, x_seq4, x_seq5, x_seq6, x_nil, x_if, x_if1, x_if2, x_if3, x_ret, x_ret1, x_ret2, x_ret3, x_retN, x_asg, x_asg1, x_asg2, x_asg3, x_asg4, x_asg5, x_gN, x_drop, x_drop1, x_drop2, x_bk, x_ct, x_raise, x_tZ, x_tZ1, x_tZ2, x_tE, x_tE1, x_tE2, x_tE3, x_tAnd, x_tAnd1, x_tAnd2, x_tAnd3, x_tOr, x_tOr1, x_tOr2, x_tOr3, x_tNot, x_tNot1, x_tNot2, x_tNot3, x_tTrue, x_z2, x_z21, x_z1, x_z11, x_zC, x_zC1, x_za, x_za1, x_za0, x_zV, x_zK, x_ch, x_ch1, x_ch2, x_eZ, x_eZ1, x_eZ2, x_eV, x_eV1, x_eM, x_eM1, x_b1, x_b2, x_b3, x_s1, x_s2, x_s3, x_oO, x_oO2, x_e2, x_e1, x_eC, x_aN, x_aC, x_tup, x_lst, x_call, x_oC1, x_oC2, x_call0, x_call01, x_eAnd, x_eAnd1, x_eOr, x_eOr1, x_eNot, x_eNot1, x_eIf, x_eIf1, x_fz_int, x_fr_int, x_fz_bl, x_fr_bl, x_fz_str, x_fr_str, x_fz_ty, x_fr_ty, x_fz_tup, x_fr_tup, x_fz_cst, x_fr_cst, x_fz_lst_false, x_fr_lst_false, x_fz_non, x_fr_non, x_fz_lt, x_fr_lt, x_fL0, x_fL1, x_cF, x_cR1, x_cR2, x_cR3, x_iL, x_iL1, x_iT, x_iT1, x_iS, x_iS1, x_iR1, x_iR11, x_iR2, x_iR21, x_iE, x_iE1, x_iV, x_iV1, x_iZ, x_iZ1, x_for, x_fo0, x_fo1, x_fo2, x_fo3, x_fo4, x_fo5, x_fo6, x_fo7, x_gT, x_gC, x_gC0, x_try, x_try1, x_try2, x_try3, x_try4, x_try5, x_nx1, x_nx2, x_try6, x_try7, x_nx3, x_nx4, x_app, x_app1, x_app2, x_lc, x_lcE, x_lc0, x_lc1, x_lcG, x_w0, x_w1, vMinL4, vMaxL4, vAll3, vAny3, vAll4, vAny4, x_wh1, x_wh2, x_wh0, x_abs, vI_ii, vI_ib, vI_it, vI_il, vI_is, vI_bb, vI_bi, vI_tt, vI_tl, vI_ti, vI_ll, vI_lt, vI_ss, vEqB, vNeB, x_ta, x_ta1, x_ta2, x_ta3, x_ta4, x_ta5, x_is, nc_0, nc_1, nc_2, nc_3, nc_4, nc_5, nc_6, nc_7, nc_8, nc_9, nc_10, nc_11, vMax2, vMin2, vIsN0, vIsN1, vNotN0, vNotN1, vIsN2, vNotN2, x_lo, x_lo1, x_lo2, vAll2, vAny2, x_sl, x_sl1, x_sl2, x_pn, x_ps, x_ps1, x_cutL, x_cutC, vEqS, vNeS, x_fz_obj, x_fr_obj, x_make, x_meth, x_meth2, x_meth3, x_isO, x_isO1, x_cat, x_cat1, x_methZ, x_methZ2, x_methZ3, x_callZ, x_callZ1, x_lend1, x_lend2, x_cl_int, x_cl_bl, x_cl_str, x_cl_non, x_cl_tup, x_cl0, x_cl1, x_cl_lst, x_setIx, x_setIx1, x_setIx2, x_callI, x_callI1, x_callI2, x_callI3, x_take0, x_take1, x_take2, x_put0, x_put1, x_cFI, x_cRI1, x_cRI2, x_outR, x_outR1, x_out1, x_out2, x_par, x_par1, x_sort, x_sort1, x_sort2, x_io2, x_io4, vIsB, x_pop, x_lr, x_lr1, x_clr, x_clr1, x_clrE, x_clrE1, x_pop1, x_pop2, x_ins, x_ins1, x_ins2, x_sk, x_sk1, x_sk2, x_sk3, x_ck, x_ck1, x_lk, x_lk1, x_iK, x_iK1, x_forB, x_fbD, x_fbR, x_fbR2, x_fzE, vInt1, vInt2, x_tupO, x_tupO1, x_tupO2, x_e2Z, x_e2Z1, x_appF, x_appF1, x_appF2, x_appF3, x_setF, x_setF1, x_setF2, x_setF3, x_setFd, x_setFd1, x_makeI, x_makeI1, x_methI, x_methI1, x_methI2, x_mz0, x_mz01, x_mz02, x_mz03, x_m0, x_m01, x_m02, x_m03, x_fz_objt, x_fr_objt, List.all_cons, List.all_nil, Option.isSome_some, Option.map_some, List.getD_cons_zero, List.getD_cons_succ, List.set_cons_zero, List.set_cons_succ, List.map_cons, List.map_nil, List.replicate_zero, List.replicate_succ, List.length_cons, List.length_nil, List.cons_append, List.nil_append, Option.bind_some, if_true, if_false, Bool.false_eq_true, Nat.reduceSub, Nat.reduceAdd, Nat.reduceLeDiff, Nat.reduceLT, vAdd, vSub, vLt, vLe, vGt, vGe, vNeg, vEq, vNe, vEq2, vNe2, vMod, vDiv, vMul, vPow, Int.reduceToNat, vIx0, vIx1, vLenT, vLenC, vLenL, reduceIte, decide_true, decide_false, Bool.not_true, Bool.not_false, beq_self_eq_true, Bool.and_true, Bool.true_and, Bool.and_self, Bool.and_false, Bool.false_and]
    show lendR (f_Net_weight [ntD false (xs.map Nk.d) hs, .int (i : Int)]) _ = _
    rw [wo]; rfl
  simp (disch := decide) only [List.set_cons_succ, List.set_cons_zero, mz, whole_ok, x_seq, x_seq1, x_seq2, x_seq3, x_seq4, x_seq5, x_seq6, x_nil, x_if, x_if1, x_if2, x_if3, x_ret, x_ret1, x_ret2, x_ret3, x_retN, x_asg, x_asg1, x_asg2, x_asg3, x_asg4, x_asg5, x_gN, x_drop, x_drop1, x_drop2, x_bk, x_ct, x_raise, x_tZ, x_tZ1, x_tZ2, x_tE, x_tE1, x_tE2, x_tE3, x_tAnd, x_tAnd1, x_tAnd2, x_tAnd3, x_tOr, x_tOr1, x_tOr2, x_tOr3, x_tNot, x_tNot1, x_tNot2, x_tNot3, x_tTrue, x_z2, x_z21, x_z1, x_z11, x_zC, x_zC1, x_za, x_za1, x_za0, x_zV, x_zK, x_ch, x_ch1, x_ch2, x_eZ, x_eZ1, x_eZ2, x_eV, x_eV1, x_eM, x_eM1, x_b1, x_b2, x_b3, x_s1, x_s2, x_s3, x_oO, x_oO2, x_e2, x_e1, x_eC, x_aN, x_aC, x_tup, x_lst, x_call, x_oC1, x_oC2, x_call0, x_call01, x_eAnd, x_eAnd1, x_eOr, x_eOr1, x_eNot, x_eNot1, x_eIf, x_eIf1, x_fz_int, x_fr_int, x_fz_bl, x_fr_bl, x_fz_str, x_fr_str, x_fz_ty, x_fr_ty, x_fz_tup, x_fr_tup, x_fz_cst, x_fr_cst, x_fz_lst_false, x_fr_lst_false, x_fz_non, x_fr_non, x_fz_lt, x_fr_lt, x_fL0, x_fL1, x_cF, x_cR1, x_cR2, x_cR3, x_iL, x_iL1, x_iT, x_iT1, x_iS, x_iS1, x_iR1, x_iR11, x_iR2, x_iR21, x_iE, x_iE1, x_iV, x_iV1, x_iZ, x_iZ1, x_for, x_fo0, x_fo1, x_fo2, x_fo3, x_fo4, x_fo5, x_fo6, x_fo7, x_gT, x_gC, x_gC0, x_try, x_try1, x_try2, x_try3, x_try4, x_try5, x_nx1, x_nx2, x_try6, x_try7, x_nx3, x_nx4, x_app, x_app1, x_app2, x_lc, x_lcE, x_lc0, x_lc1, x_lcG, x_w0, x_w1, vMinL4, vMaxL4, vAll3, vAny3, vAll4, vAny4, x_wh1, x_wh2, x_wh0, x_abs, vI_ii, vI_ib, vI_it, vI_il, vI_is, vI_bb, vI_bi, vI_tt, vI_tl, vI_ti, vI_ll, vI_lt, vI_ss, vEqB, vNeB, x_ta, x_ta1, x_ta2, x_ta3, x_ta4, x_ta5, x_is, nc_0, nc_1, nc_2, nc_3, nc_4, nc_5, nc_6, nc_7, nc_8, nc_9, nc_10, nc_11, vMax2, vMin2, vIsN0, vIsN1, vNotN0, vNotN1, vIsN2, vNotN2, x_lo, x_lo1, x_lo2, vAll2, vAny2, x_sl, x_sl1, x_sl2, x_pn, x_ps, x_ps1, x_cutL, x_cutC, vEqS, vNeS, x_fz_obj, x_fr_obj, x_make, x_meth, x_meth2, x_meth3, x_isO, x_isO1, x_cat, x_cat1, x_methZ, x_methZ2, x_methZ3, x_callZ, x_callZ1, x_lend1, x_lend2, x_cl_int, x_cl_bl, x_cl_str, x_cl_non, x_cl_tup, x_cl0, x_cl1, x_cl_lst, x_setIx, x_setIx1, x_setIx2, x_callI, x_callI1, x_callI2, x_callI3, x_take0, x_take1, x_take2, x_put0, x_put1, x_cFI, x_cRI1, x_cRI2, x_outR, x_outR1, x_out1, x_out2, x_par, x_par1, x_sort, x_sort1, x_sort2, x_io2, x_io4, vIsB, x_pop, x_lr, x_lr1, x_clr, x_clr1, x_clrE, x_clrE1, x_pop1, x_pop2, x_ins, x_ins1, x_ins2, x_sk, x_sk1, x_sk2, x_sk3, x_ck, x_ck1, x_lk, x_lk1, x_iK, x_iK1, x_forB, x_fbD, x_fbR, x_fbR2, x_fzE, vInt1, vInt2, x_tupO, x_tupO1, x_tupO2, x_e2Z, x_e2Z1, x_appF, x_appF1, x_appF2, x_appF3, x_setF, x_setF1, x_setF2, x_setF3, x_setFd, x_setFd1, x_makeI, x_makeI1, x_methI, x_methI1, x_methI2, x_mz0, x_mz01, x_mz02, x_mz03, x_m0, x_m01, x_m02, x_m03, x_fz_objt, x_fr_objt, List.all_cons, List.all_nil, Option.isSome_some, Option.map_some, List.getD_cons_zero, List.getD_cons_succ, List.set_cons_zero, List.set_cons_succ, List.map_cons, List.map_nil, List.replicate_zero, List.replicate_succ, List.length_cons, List.length_nil, List.cons_append, List.nil_append, Option.bind_some, if_true, if_false, Bool.false_eq_true, Nat.reduceSub, Nat.reduceAdd, Nat.reduceLeDiff, Nat.reduceLT, vAdd, vSub, vLt, vLe, vGt, vGe, vNeg, vEq, vNe, vEq2, vNe2, vMod, vDiv, vMul, vPow, Int.reduceToNat, vIx0, vIx1, vLenT, vLenC, vLenL, reduceIte, decide_true, decide_false, Bool.not_true, Bool.not_false, beq_self_eq_true, Bool.and_true, Bool.true_and, Bool.and_self, Bool.and_false, Bool.false_and]
  done
theorem enum_mem {hs : List Int} {d : D} (h : d ∈ enumD 0 (hs.map D.int)) : ∃ (i : Nat) (w : Int), hs[i]? = some w ∧ d = .tup [.int (i : Int), .int w] := by
  obtain ⟨i, hi⟩ := List.mem_iff_getElem?.mp h
  rw [enumD_get, List.getElem?_map] at hi
  cases e : hs[i]? with
  | none => rw [e] at hi; cases hi
  | some w =>
    rw [e] at hi
    refine ⟨i, w, e, ?_⟩
    have := Option.some.inj hi
    rw [← this, Nat.zero_add]
theorem law_true (ns : List Int) (h : ns.length ≤ 63) : f_law [.cst (ns.map D.int)] = .ok (.bl true) := by
  obtain ⟨c, hc⟩ := cell0 ns
  have P0 : PL (.cst (ns.map D.int)) [some (.cst (ns.map D.int)), some (ntD true [] []), some (ntD true [] []), some (.lst true []), some (.lst true []), none, none, none, none, none] := ⟨[], [], none, none, ⟨rfl, by decide, fun _ h => (by cases h), fun _ h => (by cases h)⟩, rfl⟩
  obtain ⟨τ5, e5, P5⟩ := a5 hc rfl rfl _ P0
  obtain ⟨τ6, e6, xs, hs, b5, b6, S, rfl⟩ := a6 _ P5
  have f1 := fz_nt true xs hs
  have f2 : freeze (nsD xs) = .lst false (xs.map Nk.d) := by
    show D.lst false (freezeL (xs.map Nk.d)) = _
    rw [fzD]
  have f3 : freeze (hsD hs) = .lst false (hs.map D.int) := by
    show D.lst false (freezeL (hs.map D.int)) = _
    rw [fz_map (fun _ => rfl)]
  have lo := listed_ok S
  have e7 : (sIf (tNot (tE (eCall f__law_listed (aCons (eVar 1) (aCons (eVar 3) aNil))))) (sRet (eZ (zC (.bl false)))) sNil) [some (.cst (ns.map D.int)), some (ntD true (xs.map Nk.d) hs), some (ntD true [] []), some (nsD xs), some (hsD hs), b5, b6, none, none, none] = .nx [some (.cst (ns.map D.int)), some (ntD false (xs.map Nk.d) hs), some (ntD true [] []), some (.lst false (xs.map Nk.d)), some (hsD hs), b5, b6, none, none, none] := by
    have z1 : isFz (ntD true (xs.map Nk.d) hs) = false := rfl
    have z2 : isFz (nsD xs) = false := rfl
    simp (disch := decide) only [f1, f2, fz_nt false xs hs, z1, z2, lo, Bool.false_eq_true, if_false, x_seq, x_seq1, x_seq2, x_seq3, x_seq4, x_seq5, x_seq6, x_nil, x_if, x_if1, x_if2, x_if3, x_ret, x_ret1, x_ret2, x_ret3, x_retN, x_asg, x_asg1, x_asg2, x_asg3, x_asg4, x_asg5, x_gN, x_drop, x_drop1, x_drop2, x_bk, x_ct, x_raise, x_tZ, x_tZ1, x_tZ2, x_tE, x_tE1, x_tE2, x_tE3, x_tAnd, x_tAnd1, x_tAnd2, x_tAnd3, x_tOr, x_tOr1, x_tOr2, x_tOr3, x_tNot, x_tNot1, x_tNot2, x_tNot3, x_tTrue, x_z2, x_z21, x_z1, x_z11, x_zC, x_zC1, x_za, x_za1, x_za0, x_zV, x_zK, x_ch, x_ch1, x_ch2, x_eZ, x_eZ1, x_eZ2, x_eV, x_eV1, x_eM, x_eM1, x_b1, x_b2, x_b3, x_s1, x_s2, x_s3, x_oO, x_oO2, x_e2, x_e1, x_eC, x_aN, x_aC, x_tup, x_lst, x_call, x_oC1, x_oC2, x_call0, x_call01, x_eAnd, x_eAnd1, x_eOr, x_eOr1, x_eNot, x_eNot1, x_eIf, x_eIf1, x_fz_int, x_fr_int, x_fz_bl, x_fr_bl, x_fz_str, x_fr_str, x_fz_ty, x_fr_ty, x_fz_tup, x_fr_tup, x_fz_cst, x_fr_cst, x_fz_lst_false, x_fr_lst_false, x_fz_non, x_fr_non, x_fz_lt, x_fr_lt, x_fL0, x_fL1, x_cF, x_cR1, x_cR2, x_cR3, x_iL, x_iL1, x_iT, x_iT1, x_iS, x_iS1, x_iR1, x_iR11, x_iR2, x_iR21, x_iE, x_iE1, x_iV, x_iV1, x_iZ, x_iZ1, x_for, x_fo0, x_fo1, x_fo2, x_fo3, x_fo4, x_fo5, x_fo6, x_fo7, x_gT, x_gC, x_gC0, x_try, x_try1, x_try2, x_try3, x_try4, x_try5, x_nx1, x_nx2, x_try6, x_try7, x_nx3, x_nx4, x_app, x_app1, x_app2, x_lc, x_lcE, x_lc0, x_lc1, x_lcG, x_w0, x_w1, vMinL4, vMaxL4, vAll3, vAny3, vAll4, vAny4, x_wh1, x_wh2, x_wh0, x_abs, vI_ii, vI_ib, vI_it, vI_il, vI_is, vI_bb, vI_bi, vI_tt, vI_tl, vI_ti, vI_ll, vI_lt, vI_ss, vEqB, vNeB, x_ta, x_ta1, x_ta2, x_ta3, x_ta4, x_ta5, x_is, nc_0, nc_1, nc_2, nc_3, nc_4, nc_5, nc_6, nc_7, nc_8, nc_9, nc_10, nc_11, vMax2, vMin2, vIsN0, vIsN1, vNotN0, vNotN1, vIsN2, vNotN2, x_lo, x_lo1, x_lo2, vAll2, vAny2, x_sl, x_sl1, x_sl2, x_pn, x_ps, x_ps1, x_cutL, x_cutC, vEqS, vNeS, x_fz_obj, x_fr_obj, x_make, x_meth, x_meth2, x_meth3, x_isO, x_isO1, x_cat, x_cat1, x_methZ, x_methZ2, x_methZ3, x_callZ, x_callZ1, x_lend1, x_lend2, x_cl_int, x_cl_bl, x_cl_str, x_cl_non, x_cl_tup, x_cl0, x_cl1, x_cl_lst, x_setIx, x_setIx1, x_setIx2, x_callI, x_callI1, x_callI2, x_callI3, x_take0, x_take1, x_take2, x_put0, x_put1, x_cFI, x_cRI1, x_cRI2, x_outR, x_outR1, x_out1, x_out2, x_par, x_par1, x_sort, x_sort1, x_sort2, x_io2, x_io4, vIsB, x_pop, x_lr, x_lr1, x_clr, x_clr1, x_clrE, x_clrE1, x_pop1, x_pop2, x_ins, x_ins1, x_ins2, x_sk, x_sk1, x_sk2, x_sk3, x_ck, x_ck1, x_lk, x_lk1, x_iK, x_iK1, x_forB, x_fbD, x_fbR, x_fbR2, x_fzE, vInt1, vInt2, x_tupO, x_tupO1, x_tupO2, x_e2Z, x_e2Z1, x_appF, x_appF1, x_appF2, x_appF3, x_setF, x_setF1, x_setF2, x_setF3, x_setFd, x_setFd1, x_makeI, x_makeI1, x_methI, x_methI1, x_methI2, x_mz0, x_mz01, x_mz02, x_mz03, x_m0, x_m01, x_m02, x_m03, x_fz_objt, x_fr_objt, List.all_cons, List.all_nil, Option.isSome_some, Option.map_some, List.getD_cons_zero, List.getD_cons_succ, List.set_cons_zero, List.set_cons_succ, List.map_cons, List.map_nil, List.replicate_zero, List.replicate_succ, List.length_cons, List.length_nil, List.cons_append, List.nil_append, Option.bind_some, if_true, if_false, Bool.false_eq_true, Nat.reduceSub, Nat.reduceAdd, Nat.reduceLeDiff, Nat.reduceLT, vAdd, vSub, vLt, vLe, vGt, vGe, vNeg, vEq, vNe, vEq2, vNe2, vMod, vDiv, vMul, vPow, Int.reduceToNat, vIx0, vIx1, vLenT, vLenC, vLenL, reduceIte, decide_true, decide_false, Bool.not_true, Bool.not_false, beq_self_eq_true, Bool.and_true, Bool.true_and, Bool.and_self, Bool.and_false, Bool.false_and]
    done
  obtain ⟨τ8, e8, c5, c6, c7, c8, c9, rfl⟩ := loop_ok (g := gT 2 (gCons' (gN 7) (gCons' (gN 8) gNil'))) (b := (sSeq (sAsg (eMethZ al_weight "weight" (eVar 1) (zaCons (zVar 7) zaNil)) (gN 9)) (sIf (tOr (tNot (tE (eCall f__law_whole (aCons (eVar 9) aNil)))) (tZ (z2 gNe (zVar 9) (zVar 8)))) (sRet (eZ (zC (.bl false)))) sNil))) (P := PW (.cst (ns.map D.int)) xs hs) (ds := enumD 0 (hs.map D.int)) (τ := [some (.cst (ns.map D.int)), some (ntD false (xs.map Nk.d) hs), some (ntD true [] []), some (.lst false (xs.map Nk.d)), some (.lst false (hs.map D.int)), b5, b6, none, none, none]) ⟨_, _, _, _, _, rfl⟩ (fun d hd => by
    obtain ⟨i, w, hi, rfl⟩ := enum_mem hd
    exact turn8 hi)
  have e8' : (sFor (iE (aCons (eVar 4) aNil)) (gT 2 (gCons' (gN 7) (gCons' (gN 8) gNil'))) (sSeq (sAsg (eMethZ al_weight "weight" (eVar 1) (zaCons (zVar 7) zaNil)) (gN 9)) (sIf (tOr (tNot (tE (eCall f__law_whole (aCons (eVar 9) aNil)))) (tZ (z2 gNe (zVar 9) (zVar 8)))) (sRet (eZ (zC (.bl false)))) sNil))) [some (.cst (ns.map D.int)), some (ntD false (xs.map Nk.d) hs), some (ntD true [] []), some (.lst false (xs.map Nk.d)), some (hsD hs), b5, b6, none, none, none] = .nx [some (.cst (ns.map D.int)), some (ntD false (xs.map Nk.d) hs), some (ntD true [] []), some (.lst false (xs.map Nk.d)), some (.lst false (hs.map D.int)), c5, c6, c7, c8, c9] := by
    have z3 : isFz (hsD hs) = false := rfl
    simp (disch := decide) only [f3, z3, Bool.false_eq_true, if_false, x_seq, x_seq1, x_seq2, x_seq3, x_seq4, x_seq5, x_seq6, x_nil, x_if, x_if1, x_if2, x_if3, x_ret, x_ret1, x_ret2, x_ret3, x_retN, x_asg, x_asg1, x_asg2, x_asg3, x_asg4, x_asg5, x_gN, x_drop, x_drop1, x_drop2, x_bk, x_ct, x_raise, x_tZ, x_tZ1, x_tZ2, x_tE, x_tE1, x_tE2, x_tE3, x_tAnd, x_tAnd1, x_tAnd2, x_tAnd3, x_tOr, x_tOr1, x_tOr2, x_tOr3, x_tNot, x_tNot1, x_tNot2, x_tNot3, x_tTrue, x_z2, x_z21, x_z1, x_z11, x_zC, x_zC1, x_za, x_za1, x_za0, x_zV, x_zK, x_ch, x_ch1, x_ch2, x_eZ, x_eZ1, x_eZ2, x_eV, x_eV1, x_eM, x_eM1, x_b1, x_b2, x_b3, x_s1, x_s2, x_s3, x_oO, x_oO2, x_e2, x_e1, x_eC, x_aN, x_aC, x_tup, x_lst, x_call, x_oC1, x_oC2, x_call0, x_call01, x_eAnd, x_eAnd1, x_eOr, x_eOr1, x_eNot, x_eNot1, x_eIf, x_eIf1, x_fz_int, x_fr_int, x_fz_bl, x_fr_bl, x_fz_str, x_fr_str, x_fz_ty, x_fr_ty, x_fz_tup, x_fr_tup, x_fz_cst, x_fr_cst, x_fz_lst_false, x_fr_lst_false, x_fz_non, x_fr_non, x_fz_lt, x_fr_lt, x_fL0, x_fL1, x_cF, x_cR1, x_cR2, x_cR3, x_iL, x_iL1, x_iT, x_iT1, x_iS, x_iS1, x_iR1, x_iR11, x_iR2, x_iR21, x_iE, x_iE1, x_iV, x_iV1, x_iZ, x_iZ1, x_for, x_fo0, x_fo1, x_fo2, x_fo3, x_fo4, x_fo5, x_fo6, x_fo7, x_gT, x_gC, x_gC0, x_try, x_try1, x_try2, x_try3, x_try4, x_try5, x_nx1, x_nx2, x_try6, x_try7, x_nx3, x_nx4, x_app, x_app1, x_app2, x_lc, x_lcE, x_lc0, x_lc1, x_lcG, x_w0, x_w1, vMinL4, vMaxL4, vAll3, vAny3, vAll4, vAny4, x_wh1, x_wh2, x_wh0, x_abs, vI_ii, vI_ib, vI_it, vI_il, vI_is, vI_bb, vI_bi, vI_tt, vI_tl, vI_ti, vI_ll, vI_lt, vI_ss, vEqB, vNeB, x_ta, x_ta1, x_ta2, x_ta3, x_ta4, x_ta5, x_is, nc_0, nc_1, nc_2, nc_3, nc_4, nc_5, nc_6, nc_7, nc_8, nc_9, nc_10, nc_11, vMax2, vMin2, vIsN0, vIsN1, vNotN0, vNotN1, vIsN2, vNotN2, x_lo, x_lo1, x_lo2, vAll2, vAny2, x_sl, x_sl1, x_sl2, x_pn, x_ps, x_ps1, x_cutL, x_cutC, vEqS, vNeS, x_fz_obj, x_fr_obj, x_make, x_meth, x_meth2, x_meth3, x_isO, x_isO1, x_cat, x_cat1, x_methZ, x_methZ2, x_methZ3, x_callZ, x_callZ1, x_lend1, x_lend2, x_cl_int, x_cl_bl, x_cl_str, x_cl_non, x_cl_tup, x_cl0, x_cl1, x_cl_lst, x_setIx, x_setIx1, x_setIx2, x_callI, x_callI1, x_callI2, x_callI3, x_take0, x_take1, x_take2, x_put0, x_put1, x_cFI, x_cRI1, x_cRI2, x_outR, x_outR1, x_out1, x_out2, x_par, x_par1, x_sort, x_sort1, x_sort2, x_io2, x_io4, vIsB, x_pop, x_lr, x_lr1, x_clr, x_clr1, x_clrE, x_clrE1, x_pop1, x_pop2, x_ins, x_ins1, x_ins2, x_sk, x_sk1, x_sk2, x_sk3, x_ck, x_ck1, x_lk, x_lk1, x_iK, x_iK1, x_forB, x_fbD, x_fbR, x_fbR2, x_fzE, vInt1, vInt2, x_tupO, x_tupO1, x_tupO2, x_e2Z, x_e2Z1, x_appF, x_appF1, x_appF2, x_appF3, x_setF, x_setF1, x_setF2, x_setF3, x_setFd, x_setFd1, x_makeI, x_makeI1, x_methI, x_methI1, x_methI2, x_mz0, x_mz01, x_mz02, x_mz03, x_m0, x_m01, x_m02, x_m03, x_fz_objt, x_fr_objt, List.all_cons, List.all_nil, Option.isSome_some, Option.map_some, List.getD_cons_zero, List.getD_cons_succ, List.set_cons_zero, List.set_cons_succ, List.map_cons, List.map_nil, List.replicate_zero, List.replicate_succ, List.length_cons, List.length_nil, List.cons_append, List.nil_append, Option.bind_some, if_true, if_false, Bool.false_eq_true, Nat.reduceSub, Nat.reduceAdd, Nat.reduceLeDiff, Nat.reduceLT, vAdd, vSub, vLt, vLe, vGt, vGe, vNeg, vEq, vNe, vEq2, vNe2, vMod, vDiv, vMul, vPow, Int.reduceToNat, vIx0, vIx1, vLenT, vLenC, vLenL, reduceIte, decide_true, decide_false, Bool.not_true, Bool.not_false, beq_self_eq_true, Bool.and_true, Bool.true_and, Bool.and_self, Bool.and_false, Bool.false_and]
    exact e8
  have e9 : (sRet (e2 gEq (eMethZ0 al_nodes "nodes" 2) (eLst aNil))) [some (.cst (ns.map D.int)), some (ntD false (xs.map Nk.d) hs), some (ntD true [] []), some (.lst false (xs.map Nk.d)), some (.lst false (hs.map D.int)), c5, c6, c7, c8, c9] = .rt (.bl true) [some (.cst (ns.map D.int)), some (ntD false (xs.map Nk.d) hs), some (ntD true [] []), some (.lst false (xs.map Nk.d)), some (.lst false (hs.map D.int)), c5, c6, c7, c8, c9] := rfl
  have em : m_law [some (.cst (ns.map D.int)), none, none, none, none, none, none, none, none, none] = .rt (.bl true) [some (.cst (ns.map D.int)), some (ntD false (xs.map Nk.d) hs), some (ntD true [] []), some (.lst false (xs.map Nk.d)), some (.lst false (hs.map D.int)), c5, c6, c7, c8, c9] := by
    show seqR ((sIf (tE (e2 gEq (e2 gMod (eCall f__law_cell_at (aCons (eVar 0) (aCons (eZ (zC (.int 0))) aNil))) (eZ (zC (.int 3)))) (eZ (zC (.int 1))))) (sFor (iR1 (aCons (e2 gAdd (eZ (zC (.int 50))) (e2 gMod (e2 gDiv (eCall f__law_cell_at (aCons (eVar 0) (aCons (eZ (zC (.int 0))) aNil))) (eZ (zC (.int 3)))) (eZ (zC (.int 14))))) aNil)) (gN 5) (sIf (tNot (tE (eCallI f__law_step [1, 3, 4] (aCons (eTup (aCons (eZ (zC (.str "number"))) (aCons (eZ (z2 gSub (zVar 5) (zC (.int 7)))) (aCons (eZ (zC (.int 1))) aNil)))) aNil)))) (sRet (eZ (zC (.bl false)))) sNil)) sNil) [some (.cst (ns.map D.int)), some (ntD true [] []), some (ntD true [] []), some (.lst true []), some (.lst true []), none, none, none, none, none]) (sSeq (sFor (iL (eSlice cutLd (eVar 0) (pSome (eZ (zC (.int 1)))) (pSome (eZ (zC (.int 61)))))) (gN 6) (sIf (tNot (tE (eCallI f__law_step [1, 3, 4] (aCons (eCall f__law_node (aCons (eZ (z2 gMod (zVar 6) (z2 gPow (zC (.int 10)) (zC (.int 9))))) (aCons (eZ (zC' gLen (zaCons (zVar 3) zaNil))) aNil))) aNil)))) (sRet (eZ (zC (.bl false)))) sNil)) (sSeq (sIf (tNot (tE (eCall f__law_listed (aCons (eVar 1) (aCons (eVar 3) aNil))))) (sRet (eZ (zC (.bl false)))) sNil) (sSeq (sFor (iE (aCons (eVar 4) aNil)) (gT 2 (gCons' (gN 7) (gCons' (gN 8) gNil'))) (sSeq (sAsg (eMethZ al_weight "weight" (eVar 1) (zaCons (zVar 7) zaNil)) (gN 9)) (sIf (tOr (tNot (tE (eCall f__law_whole (aCons (eVar 9) aNil)))) (tZ (z2 gNe (zVar 9) (zVar 8)))) (sRet (eZ (zC (.bl false)))) sNil))) (sRet (e2 gEq (eMethZ0 al_nodes "nodes" 2) (eLst aNil)))))) = _
    rw [e5, x_seq1, x_seq, e6, x_seq1, x_seq, e7, x_seq1, x_seq, e8', x_seq1, e9]
  unfold f_law callF
  rw [if_pos (show [D.cst (ns.map D.int)].length = 1 from rfl)]
  show (match m_law [some (.cst (ns.map D.int)), none, none, none, none, none, none, none, none, none] with | .nx _ => CR.ok .non | .rt d _ => .ok d | .ex c _ => .ex c | _ => .bad) = _
  rw [em]
end Lw
namespace Lw
open PySem PySem.Spec PyProof.Rows L2 Bn
structure Tx (K : PySem.W.Frag) (mg : Str → Option Value) (ca : Str → Addr) : Prop where
  bool_ : mg "bool" = none
  enumerate : mg "enumerate" = none
  int_ : mg "int" = none
  isinstance : mg "isinstance" = none
  len_ : mg "len" = none
  list_ : mg "list" = none
  range : mg "range" = none
  tuple_ : mg "tuple" = none
  zip : mg "zip" = none
  x_BoxError : Ec K mg ca "BoxError"
  x_NoRow : Ec K mg ca "NoRow"
  x_TooMuch : Ec K mg ca "TooMuch"
  k_HEAVIEST : Kc K mg "HEAVIEST" Lw.k_HEAVIEST
  k_MOST : Kc K mg "MOST" Lw.k_MOST
  cl_Net : Cls K (ca "Net")
  na_Net_heavy : NoAttr K (ca "Net") "heavy"
  na_Net_kept : NoAttr K (ca "Net") "kept"
  h_BoxError : ∀ y t, sub_BoxError y = some t → PySem.W.exmOne K (.ref (ca y)) (.ref (ca "BoxError")) = some t
  n_BoxError : mg "BoxError" = some (.ref (ca "BoxError")) ∨ (mg "BoxError" = none ∧ bootBuiltins "BoxError" = some (.ref (ca "BoxError")) ∧ ("BoxError" : Str) ≠ "__name__")
  i_NoRow : ∀ y t, is_NoRow y = some t → ExcC K (ca y) ∧ PySem.W.kitOne K (.ref (ca y)) (.ref (ca "NoRow")) = some t
  i_TooMuch : ∀ y t, is_TooMuch y = some t → ExcC K (ca y) ∧ PySem.W.kitOne K (.ref (ca y)) (.ref (ca "TooMuch")) = some t
section
variable {P : Program} {w : World} {K : PySem.W.Frag} {mg : Str → Option Value} {base : Heap} {ca : Str → Addr}
theorem ok__law_whole (T : Tx K mg ca)  {f : Addr} {fd : FuncData} (F : Fun K "_law_whole" "_law_whole" s__law_whole f fd) : FnOk P w K mg base (L2.CX P w) 1 f fd ["_law_found"] (spP K ca f__law_whole) :=
  fn_ok F sc__law_whole fun cdv A outer s H E F0 R hr c => (s_one (s_ret (e_and (e_z (z_callB call_isi sIsi (by rfl) T.isinstance (by decide +kernel) (za_cons (z_var (pv 0)) (za_cons (z_ty (by rfl) T.int_ (by decide +kernel)) za_nil)))) (e_one (e_not (e_z (z_callB call_isi sIsi (by rfl) T.isinstance (by decide +kernel) (za_cons (z_var (pv 0)) (za_cons (z_ty (by rfl) T.bool_ (by decide +kernel)) za_nil)))))))))
theorem ok_Net_nodes (T : Tx K mg ca)  {f : Addr} {fd : FuncData} (F : Fun K "nodes" "Net.nodes" s_Net_nodes f fd) : FnOk P w K mg base (L2.CX P w) 1 f fd ["self"] (spP K ca f_Net_nodes) :=
  fn_ok F sc_Net_nodes fun cdv A outer s H E F0 R hr c => (s_one (s_ret (e_lstOf (by rfl) T.list_ (by decide +kernel) (a_cons (e_z (z_fld T.cl_Net T.na_Net_kept (z_var (pv 0)))) a_nil))))
theorem ok__law_listed (T : Tx K mg ca) (G__law_whole : Fo P w K mg base ca 1 "_law_whole" f__law_whole) (A_nodes : MAll P w K mg base ca 1 "nodes" al_nodes) {f : Addr} {fd : FuncData} (F : Fun K "_law_listed" "_law_listed" s__law_listed f fd) : FnOk P w K mg base (L2.CX P w) 2 f fd ["_law_net", "_law_nodes"] (spP K ca f__law_listed) :=
  fn_ok F sc__law_listed fun cdv A outer s H E F0 R hr c => (s_cons (s_set (i := 2) sc__law_listed.nd rfl (.inl rfl) (e_methZ0 c A_nodes hr (pv 0)))
    (s_cons (s_if (PW.pt (t_or (t_not (t_valZ (z_callB call_isi sIsi (by rfl) T.isinstance (by decide +kernel) (za_cons (z_var (pv 2)) (za_cons (z_ty (by rfl) T.list_ (by decide +kernel)) za_nil))))) (t_or1 (t_cmpZ (op_neD hr.units) sNe (z_callB call_len sLen (by rfl) T.len_ (by decide +kernel) (za_cons (z_var (pv 2)) za_nil)) (z_callB call_len sLen (by rfl) T.len_ (by decide +kernel) (za_cons (z_var (pv 1)) za_nil)))))) (s_one (s_ret (e_z z_bl))) s_nil)
    (s_cons (s_forZB (i := 2) (j := 1) c (by rfl) T.zip (pv 2) (pv 1) (fun _ => (g_tup c.calm (gs_cons (g_name (i := 3) sc__law_listed.nd rfl (.inl rfl)) (gs_cons (g_name (i := 4) sc__law_listed.nd rfl (.inl rfl)) gs_nil)))) (fun _ => (s_one (s_if (PW.pt (t_or (t_not (t_valZ (z_callB call_isi sIsi (by rfl) T.isinstance (by decide +kernel) (za_cons (z_var (pv 3)) (za_cons (z_ty (by rfl) T.tuple_ (by decide +kernel)) za_nil))))) (t_or (t_not (t_valE (e_call c G__law_whole hr (by rfl) (a_cons (e_z (z_ix ix_seq sIx (z_var (pv 3)) z_int)) a_nil)))) (t_or1 (t_cmpZ (op_neD hr.units) sNe (z_var (pv 3)) (z_var (pv 4))))))) (s_one (s_ret (e_z z_bl))) s_nil))))
    (s_cons (s_app (pv 2) (e_tup (a_cons (e_z z_str) (a_cons (e_z z_int) (a_cons (e_z z_int) a_nil)))))
    (s_cons (s_setIx (pv 2) z_int (e_tup (a_cons (e_z z_str) (a_cons (e_z z_int) (a_cons (e_z z_int) a_nil)))))
    (s_one (s_ret (e_cmp (op_eqD hr.units) sEq (e_methZ0 c A_nodes hr (pv 0)) (e_var (pv 1))))))))))
theorem ok__law_cell_at (T : Tx K mg ca)  {f : Addr} {fd : FuncData} (F : Fun K "_law_cell_at" "_law_cell_at" s__law_cell_at f fd) : FnOk P w K mg base (L2.CX P w) 1 f fd ["_law_script", "_law_k"] (spP K ca f__law_cell_at) :=
  fn_ok F sc__law_cell_at fun cdv A outer s H E F0 R hr c => (s_cons (s_if (t_cmpZ op_lt sLt (z_var (pv 1)) (z_callB call_len sLen (by rfl) T.len_ (by decide +kernel) (za_cons (z_var (pv 0)) za_nil))) (s_one (s_ret (e_z (z_ix ix_seq sIx (z_var (pv 0)) (z_var (pv 1)))))) s_nil)
    (s_one (s_ret (e_z z_int))))
theorem ok_weight_of (T : Tx K mg ca)  {f : Addr} {fd : FuncData} (F : Fun K "weight_of" "weight_of" s_weight_of f fd) : FnOk P w K mg base (L2.CX P w) 1 f fd ["node", "heavy"] (spP K ca f_weight_of) :=
  fn_ok F sc_weight_of fun cdv A outer s H E F0 R hr c => (s_cons (s_if (t_cmpE op_in_seq sIn (e_z (z_ix ix_seq sIx (z_var (pv 0)) z_int)) (e_tup (a_cons (e_z z_str) (a_cons (e_z z_str) a_nil)))) (s_one (s_ret (e_z z_int))) s_nil)
    (s_cons (s_if (t_cmpZ (op_eqD hr.units) sEq (z_ix ix_seq sIx (z_var (pv 0)) z_int) z_str) (s_one (s_ret (e_z (z_op op_mulW sMul (z_ix ix_seq sIx (z_var (pv 0)) z_int) (z_ix ix_seq sIx (z_var (pv 1)) (z_ix ix_seq sIx (z_var (pv 0)) z_int)))))) s_nil)
    (s_one (s_ret (e_z (z_op op_add sAdd (z_ix ix_seq sIx (z_var (pv 1)) (z_ix ix_seq sIx (z_var (pv 0)) z_int)) (z_ix ix_seq sIx (z_var (pv 1)) (z_ix ix_seq sIx (z_var (pv 0)) z_int))))))))
theorem ok_Net_put (T : Tx K mg ca) (G_weight_of : Fo P w K mg base ca 1 "weight_of" f_weight_of) {f : Addr} {fd : FuncData} (F : Fun K "put" "Net.put" s_Net_put f fd) : FnOk P w K mg base (L2.CX P w) 2 f fd ["self", "node"] (spG K ca [true, false] f_Net_put) :=
  fn_okG F sc_Net_put (by rfl) (by decide) fun cdv A outer s H E F0 R us ul hr c => match us, ul with | [v0, v1], _ => (show PSs _ _ (rdS K ⟨ca, F0, R, [(0, v0)]⟩ _ _) from (s_cons (s_if (t_cmpZ (op_inD (units65 hr)) sInD (z_var (pv 1)) (z_fld T.cl_Net T.na_Net_kept (z_var (pv 0)))) (s_one (s_ret (e_z (z_index hr (z_fld T.cl_Net T.na_Net_kept (z_var (pv 0))) (z_var (pv 1)))))) s_nil)
    (s_cons (s_set (i := 2) sc_Net_put.nd rfl (.inl rfl) (e_callZ c G_weight_of hr (by rfl) (za_cons (z_var (pv 1)) (za_cons (z_fld T.cl_Net T.na_Net_heavy (z_var (pv 0))) za_nil))))
    (s_cons (s_if (PW.pt (t_or (t_cmpZ op_gt sGt (z_var (pv 2)) (z_k T.k_HEAVIEST (by rfl))) (t_or1 (t_cmpZ op_ge sGe (z_callB call_len sLen (by rfl) T.len_ (by decide +kernel) (za_cons (z_fld T.cl_Net T.na_Net_kept (z_var (pv 0))) za_nil)) (z_k T.k_MOST (by rfl)))))) (s_one (s_raise c T.x_TooMuch (by rfl))) s_nil)
    (s_cons (s_appF T.cl_Net T.na_Net_kept (pv 0) (e_var (pv 1)))
    (s_cons (s_appF T.cl_Net T.na_Net_heavy (pv 0) (e_var (pv 2)))
    (s_one (s_ret (e_z (z_op op_sub sSub (z_callB call_len sLen (by rfl) T.len_ (by decide +kernel) (za_cons (z_fld T.cl_Net T.na_Net_kept (z_var (pv 0))) za_nil)) z_int))))))))))
theorem ok__law_put (T : Tx K mg ca) (I_Net_put : MFoG P w K mg base ca 2 "Net" "put" [true, false] f_Net_put) {f : Addr} {fd : FuncData} (F : Fun K "_law_put" "_law_put" s__law_put f fd) : FnOk P w K mg base (L2.CX P w) 3 f fd ["_law_net", "_law_node_here"] (spIO K ca 1 f__law_put) :=
  fn_okIO F sc__law_put (by decide) fun cdv A outer s H E F0 R us ul hr c => match us, ul with | [v0], _ => (show PSs _ _ (rdS K ⟨ca, F0, R, [(0, v0)]⟩ _ _) from (s_cons (s_set (i := 2) sc__law_put.nd rfl (.inl rfl) (e_lst (a_cons (e_z z_str) a_nil)))
    (s_cons (s_tryAs (i := 3) c sc__law_put.nd rfl rfl sub_BoxError ⟨by rfl, by decide, T.n_BoxError⟩ T.h_BoxError rfl rfl (fun _ _ _ c => (s_one (s_set (i := 2) sc__law_put.nd rfl (.inl rfl) (e_lst (a_cons (e_methG (n := 1) c I_Net_put hr (pv 0) (a_cons (e_var (pv 1)) a_nil)) a_nil))))) (fun _ _ y _ hz hv => (s_one (s_if (PW.pt (t_or (t_not (t_valE (e_isE hz hv (pv 3) (pe_glob (v := .ref (ca "TooMuch")) (by rfl) T.x_TooMuch.g rfl) (fun _ h => h) (fun t h => T.i_TooMuch y t h) (by rfl) T.isinstance))) (t_or1 (t_valE (e_isE hz hv (pv 3) (pe_glob (v := .ref (ca "NoRow")) (by rfl) T.x_NoRow.g rfl) (fun _ h => h) (fun t h => T.i_NoRow y t h) (by rfl) T.isinstance))))) (s_one (s_set (i := 2) sc__law_put.nd rfl (.inl rfl) (e_lst (a_cons (e_z z_str) a_nil)) (ioE (by decide) (by first | (intro p hp; cases hp; done) | (intro p hp; simp only [List.mem_cons, List.not_mem_nil, or_false] at hp; subst hp; simp) | (intro p hp; simp only [List.mem_cons, List.not_mem_nil, or_false] at hp; rcases hp with rfl | rfl <;> simp) | (intro p hp; simp only [List.mem_cons, List.not_mem_nil, or_false] at hp; rcases hp with rfl | rfl | rfl <;> simp))))) s_nil))) (by first | (intro p hp; cases hp; done) | (intro p hp; simp only [List.mem_cons, List.not_mem_nil, or_false] at hp; subst hp; simp) | (intro p hp; simp only [List.mem_cons, List.not_mem_nil, or_false] at hp; rcases hp with rfl | rfl <;> simp) | (intro p hp; simp only [List.mem_cons, List.not_mem_nil, or_false] at hp; rcases hp with rfl | rfl | rfl <;> simp)))
    (s_one (s_ret (e_mv (pv 2)))))))
theorem ok__law_weight (T : Tx K mg ca)  {f : Addr} {fd : FuncData} (F : Fun K "_law_weight" "_law_weight" s__law_weight f fd) : FnOk P w K mg base (L2.CX P w) 1 f fd ["_law_node_here", "_law_heavy"] (spP K ca f__law_weight) :=
  fn_ok F sc__law_weight fun cdv A outer s H E F0 R hr c => (s_cons (s_if (PW.pt (t_or (t_cmpZ (op_eqD hr.units) sEq (z_ix ix_seq sIx (z_var (pv 0)) z_int) z_str) (t_or1 (t_cmpZ (op_eqD hr.units) sEq (z_ix ix_seq sIx (z_var (pv 0)) z_int) z_str)))) (s_one (s_ret (e_z z_int))) s_nil)
    (s_cons (s_if (t_cmpZ (op_eqD hr.units) sEq (z_ix ix_seq sIx (z_var (pv 0)) z_int) z_str) (s_one (s_ret (e_z (z_op op_mulA sMulA (z_ix ix_seq sIx (z_var (pv 0)) z_int) (z_ix ix_seq sIx (z_var (pv 1)) (z_ix ix_seq sIx (z_var (pv 0)) z_int)))))) s_nil)
    (s_one (s_ret (e_z (z_op op_add sAdd (z_ix ix_seq sIx (z_var (pv 1)) (z_ix ix_seq sIx (z_var (pv 0)) z_int)) (z_ix ix_seq sIx (z_var (pv 1)) (z_ix ix_seq sIx (z_var (pv 0)) z_int))))))))
theorem ok__law_step (T : Tx K mg ca) (G__law_put : FoI P w K mg base ca 3 "_law_put" 1 f__law_put) (G__law_weight : Fo P w K mg base ca 1 "_law_weight" f__law_weight) (G__law_whole : Fo P w K mg base ca 1 "_law_whole" f__law_whole) {f : Addr} {fd : FuncData} (F : Fun K "_law_step" "_law_step" s__law_step f fd) : FnOk P w K mg base (L2.CX P w) 4 f fd ["_law_net", "_law_nodes", "_law_heavy", "_law_node_here"] (spIO K ca 3 f__law_step) :=
  fn_okIO F sc__law_step (by decide) fun cdv A outer s H E F0 R us ul hr c => match us, ul with | [v0, v1, v2], _ => (show PSs _ _ (rdS K ⟨ca, F0, R, [(0, v0), (1, v1), (2, v2)]⟩ _ _) from (s_cons (s_set (i := 4) sc__law_step.nd rfl (.inl rfl) (e_callI c G__law_put hr (by rfl) (pa_io (pv 0) (pa_io0 (a_cons (e_var (pv 3)) a_nil)))))
    (s_cons (s_if (t_cmpZ (op_inD (units65 hr)) sInD (z_var (pv 3)) (z_var (pv 1))) (s_one (s_ret (e_and (e_call c G__law_whole hr (by rfl) (a_cons (e_z (z_ix ix_seq sIx (z_var (pv 4)) z_int)) a_nil)) (e_one (e_cmp (op_eqD hr.units) sEq (e_var (pv 4)) (e_lst (a_cons (e_z (z_index hr (z_var (pv 1)) (z_var (pv 3)))) a_nil))))))) s_nil)
    (s_cons (s_if (PW.pt (t_or (t_cmpE op_gt sGt (e_callZ c G__law_weight hr (by rfl) (za_cons (z_var (pv 3)) (za_cons (z_var (pv 2)) za_nil))) (e_z z_int)) (t_or1 (t_cmpZ op_gt sGt (z_callB call_len sLen (by rfl) T.len_ (by decide +kernel) (za_cons (z_var (pv 1)) za_nil)) z_int)))) (s_one (s_ret (e_cmp (op_eqD hr.units) sEq (e_var (pv 4)) (e_lst (a_cons (e_z z_str) a_nil))))) s_nil)
    (s_cons (s_app (pv 1) (e_var (pv 3)))
    (s_cons (s_app (pv 2) (e_callZ c G__law_weight hr (by rfl) (za_cons (z_var (pv 3)) (za_cons (z_var (pv 2)) za_nil))))
    (s_one (s_ret (e_and (e_call c G__law_whole hr (by rfl) (a_cons (e_z (z_ix ix_seq sIx (z_var (pv 4)) z_int)) a_nil)) (e_one (e_cmp (op_eqD hr.units) sEq (e_var (pv 4)) (e_lst (a_cons (e_z (z_op op_sub sSub (z_callB call_len sLen (by rfl) T.len_ (by decide +kernel) (za_cons (z_var (pv 1)) za_nil)) z_int)) a_nil)))))))))))))
theorem ok__law_node (T : Tx K mg ca)  {f : Addr} {fd : FuncData} (F : Fun K "_law_node" "_law_node" s__law_node f fd) : FnOk P w K mg base (L2.CX P w) 1 f fd ["_law_cell", "_law_many"] (spP K ca f__law_node) :=
  fn_ok F sc__law_node fun cdv A outer s H E F0 R hr c => (s_cons (s_if (PW.pt (t_or (t_cmpZ (op_eqD hr.units) sEq (z_var (pv 1)) z_int) (t_or1 (t_cmpZ (op_eqD hr.units) sEq (z_op op_mod sMod (z_var (pv 0)) z_int) z_int)))) (s_cons (s_set (i := 2) sc__law_node.nd rfl (.inl rfl) (e_z (z_op op_add sAdd z_int (z_op op_mod sMod (z_op op_fdivW sDiv (z_var (pv 0)) z_int) z_int))))
    (s_one (s_ret (e_tup (a_cons (e_z z_str) (a_cons (e_z (z_op op_add sAdd (z_op op_mulA sMulA (z_var (pv 2)) (z_op op_sub sSub (z_op op_mod sMod (z_op op_fdivW sDiv (z_var (pv 0)) z_int) z_int) z_int)) z_int)) (a_cons (e_var (pv 2)) a_nil))))))) s_nil)
    (s_cons (s_if (t_cmpZ (op_eqD hr.units) sEq (z_op op_mod sMod (z_var (pv 0)) z_int) z_int) (s_one (s_ret (e_tup (a_cons (e_z z_str) (a_cons (e_z (z_op op_mod sMod (z_op op_fdivW sDiv (z_var (pv 0)) z_int) z_int)) a_nil))))) s_nil)
    (s_cons (s_set (i := 3) sc__law_node.nd rfl (.inl rfl) (e_z (z_op op_mod sMod (z_op op_fdivW sDiv (z_var (pv 0)) z_int) (z_var (pv 1)))))
    (s_cons (s_if (t_cmpZ (op_eqD hr.units) sEq (z_op op_mod sMod (z_var (pv 0)) z_int) z_int) (s_one (s_ret (e_tup (a_cons (e_z z_str) (a_cons (e_var (pv 3)) (a_cons (e_z (z_op op_add sAdd z_int (z_op op_mod sMod (z_op op_fdivW sDiv (z_op op_fdivW sDiv (z_var (pv 0)) z_int) (z_var (pv 1))) z_int))) a_nil)))))) s_nil)
    (s_cons (s_set (i := 4) sc__law_node.nd rfl (.inl rfl) (e_z (z_op op_mod sMod (z_op op_fdivW sDiv (z_op op_fdivW sDiv (z_var (pv 0)) z_int) (z_var (pv 1))) (z_var (pv 1)))))
    (s_cons (s_if (t_cmpZ (op_eqD hr.units) sEq (z_op op_mod sMod (z_var (pv 0)) z_int) z_int) (s_one (s_set (i := 4) sc__law_node.nd rfl (.inl rfl) (e_z (z_op op_sub sSub (z_var (pv 1)) z_int)))) s_nil)
    (s_one (s_ret (e_tup (a_cons (e_ix ix_seq sIx (e_lst (a_cons (e_z z_str) (a_cons (e_z z_str) (a_cons (e_z z_str) a_nil)))) (e_z (z_op op_mod sMod (z_op op_mod sMod (z_var (pv 0)) z_int) z_int))) (a_cons (e_var (pv 3)) (a_cons (e_var (pv 4)) a_nil))))))))))))
theorem ok_Net___init__ (T : Tx K mg ca)  {f : Addr} {fd : FuncData} (F : Fun K "__init__" "Net.__init__" s_Net___init__ f fd) : FnOk P w K mg base (L2.CX P w) 1 f fd ["self"] (spIO K ca 1 f_Net___init__) :=
  fn_okIO F sc_Net___init__ (by decide) fun cdv A outer s H E F0 R us ul hr c => match us, ul with | [v0], _ => (show PSs _ _ (rdS K ⟨ca, F0, R, [(0, v0)]⟩ _ _) from (s_cons (s_setFld T.cl_Net T.na_Net_kept (pv 0) (e_lst a_nil))
    (s_one (s_setFld T.cl_Net T.na_Net_heavy (pv 0) (e_lst a_nil)))))
theorem ok_Net_weight (T : Tx K mg ca)  {f : Addr} {fd : FuncData} (F : Fun K "weight" "Net.weight" s_Net_weight f fd) : FnOk P w K mg base (L2.CX P w) 1 f fd ["self", "at"] (spP K ca f_Net_weight) :=
  fn_ok F sc_Net_weight fun cdv A outer s H E F0 R hr c => (s_one (s_ret (e_z (z_ix ix_seq sIx (z_fld T.cl_Net T.na_Net_heavy (z_var (pv 0))) (z_var (pv 1))))))
theorem ok_law (T : Tx K mg ca) (G__law_listed : Fo P w K mg base ca 2 "_law_listed" f__law_listed) (G__law_cell_at : Fo P w K mg base ca 1 "_law_cell_at" f__law_cell_at) (G__law_step : FoI P w K mg base ca 4 "_law_step" 3 f__law_step) (G__law_node : Fo P w K mg base ca 1 "_law_node" f__law_node) (G__law_whole : Fo P w K mg base ca 1 "_law_whole" f__law_whole) (M_Net : MkI P w K mg base ca 2 "Net" f_Net___init__) (A_weight : MAll P w K mg base ca 4 "weight" al_weight) (A_nodes : MAll P w K mg base ca 4 "nodes" al_nodes) {f : Addr} {fd : FuncData} (F : Fun K "law" "law" s_law f fd) : FnOk P w K mg base (L2.CX P w) 5 f fd ["_law_script"] (spP K ca f_law) :=
  fn_ok F sc_law fun cdv A outer s H E F0 R hr c => (s_cons (s_set (i := 1) sc_law.nd rfl (.inl rfl) (e_makeI0 c M_Net hr (by rfl)))
    (s_cons (s_set (i := 2) sc_law.nd rfl (.inl rfl) (e_makeI0 c M_Net hr (by rfl)))
    (s_cons (s_set (i := 3) sc_law.nd rfl (.inl rfl) (e_lst a_nil))
    (s_cons (s_set (i := 4) sc_law.nd rfl (.inl rfl) (e_lst a_nil))
    (s_cons (s_if (t_cmpE (op_eqD hr.units) sEq (e_op op_mod sMod (e_call c G__law_cell_at hr (by rfl) (a_cons (e_var (pv 0)) (a_cons (e_z z_int) a_nil))) (e_z z_int)) (e_z z_int)) (s_one (s_for c (i_range1 (by rfl) T.range (a_cons (e_op op_add sAdd (e_z z_int) (e_op op_mod sMod (e_op op_fdivW sDiv (e_call c G__law_cell_at hr (by rfl) (a_cons (e_var (pv 0)) (a_cons (e_z z_int) a_nil))) (e_z z_int)) (e_z z_int))) a_nil)) (g_name (i := 5) sc_law.nd rfl (.inl rfl)) (s_one (s_if (t_not (t_valE (e_callI c G__law_step hr (by rfl) (pa_io (pv 1) (pa_io (pv 3) (pa_io (pv 4) (pa_io0 (a_cons (e_tup (a_cons (e_z z_str) (a_cons (e_z (z_op op_sub sSub (z_var (pv 5)) z_int)) (a_cons (e_z z_int) a_nil)))) a_nil)))))))) (s_one (s_ret (e_z z_bl))) s_nil)))) s_nil)
    (s_cons (s_for c (i_list (e_sliceL (e_var (pv 0)) (pe_some (e_z z_int)) (pe_some (e_z z_int)))) (g_name (i := 6) sc_law.nd rfl (.inl rfl)) (s_one (s_if (t_not (t_valE (e_callI c G__law_step hr (by rfl) (pa_io (pv 1) (pa_io (pv 3) (pa_io (pv 4) (pa_io0 (a_cons (e_call c G__law_node hr (by rfl) (a_cons (e_z (z_op op_mod sMod (z_var (pv 6)) (z_op op_pow sPow z_int z_int))) (a_cons (e_z (z_callB call_len sLen (by rfl) T.len_ (by decide +kernel) (za_cons (z_var (pv 3)) za_nil))) a_nil))) a_nil)))))))) (s_one (s_ret (e_z z_bl))) s_nil)))
    (s_cons (s_if (t_not (t_valE (e_call c G__law_listed hr (by rfl) (a_cons (e_var (pv 1)) (a_cons (e_var (pv 3)) a_nil))))) (s_one (s_ret (e_z z_bl))) s_nil)
    (s_cons (s_for c (i_enum (by rfl) T.enumerate (a_cons (e_var (pv 4)) a_nil)) (g_tup c.calm (gs_cons (g_name (i := 7) sc_law.nd rfl (.inl rfl)) (gs_cons (g_name (i := 8) sc_law.nd rfl (.inl rfl)) gs_nil))) (s_cons (s_set (i := 9) sc_law.nd rfl (.inl rfl) (e_methZ c A_weight hr (e_var (pv 1)) (za_cons (z_var (pv 7)) za_nil)))
    (s_one (s_if (PW.pt (t_or (t_not (t_valE (e_call c G__law_whole hr (by rfl) (a_cons (e_var (pv 9)) a_nil)))) (t_or1 (t_cmpZ (op_neD hr.units) sNe (z_var (pv 9)) (z_var (pv 8)))))) (s_one (s_ret (e_z z_bl))) s_nil))))
    (s_one (s_ret (e_cmp (op_eqD hr.units) sEq (e_methZ0 c A_nodes hr (pv 2)) (e_lst a_nil))))))))))))
theorem repL_ints {K : PySem.W.Frag} {ca : Str → Addr} {F : Hp} : ∀ ns : List Int, RepL K ca F (ns.map D.int) (ns.map V.int)
  | [] => rfl
  | i :: r => ⟨.int i, r.map V.int, rfl, rfl, repL_ints r⟩
theorem cx_none {P : Program} {w : World} {H : Hp} {s : Shared} {e : Value} {s' : Shared} (h : L2.CX P w [] H s (fun _ _ _ => False) e s') : False := by
  obtain ⟨_, _, _, _, _, _, _, _, _, _, _, _, z⟩ := h
  exact z
def spL (K : PySem.W.Frag) : Sp := fun vs H Q _ => ∃ (a : Addr) (ns : List Int), vs = [.ref a] ∧ ns.length ≤ 63 ∧ SqL K H a (ns.map V.int) ∧ ∀ H', Q (.bl true) H'
theorem sp_law {K : PySem.W.Frag} {ca : Str → Addr} (hl : ∀ ns : List Int, ns.length ≤ 63 → f_law [.cst (ns.map D.int)] = .ok (.bl true)) (vs : List V) (H : Hp) (Q : VK) (E : XK) (h : spL K vs H Q E) : spP K ca f_law vs H Q E := by
  obtain ⟨a, ns, rfl, hn, hS, q⟩ := h
  refine ⟨H, [.cst (ns.map D.int)], Same.refl _, ⟨.ref a, [], rfl, ⟨a, _, rfl, hS, repL_ints ns⟩, rfl⟩, ?_⟩
  rw [hl ns hn]
  intro v F' H' f _ _ _ hv _ _ _
  cases (show v = .bl true from hv.1)
  exact q H'
--ALLMK
set_option maxHeartbeats 0 in
theorem all_mk {l : PySem.W.OpenLaw} {w : World} {K : PySem.W.Frag} {h : Heap} {mg : Str → Option Value} {fa f0 f1 f2 f3 f4 f5 f6 f7 f8 f9 f10 f11 f12 a_Net : Addr} (X : K.In h) (G : h.Ns mainGlobals mg) (hfa : mg "law" = some (.ref fa))
    {od0 an0 : Option Addr} {sl0 : Array (Option Value)} {oc0 kV0 dc0 pm0 cd0 ct0 : Value} (a0 : PySem.W.nsIn K mainGlobals "_law_whole" = some (some (.ref f0))) (l0 : K.lookup f0 = some ⟨oc0, od0, .func (PySem.W.fnOf "_law_whole" "_law_whole" (defArgs s__law_whole) (defBody s__law_whole) (defScope s__law_whole) .none kV0 dc0 pm0 an0 cd0 ct0), sl0⟩) (c0 : PySem.W.codeIn K cd0 "_law_whole" = true) (k0 : PySem.W.keepIn K (.ref f0) = true)
    {od1 an1 : Option Addr} {sl1 : Array (Option Value)} {oc1 kV1 dc1 pm1 cd1 ct1 : Value} (a1 : PySem.W.findIn K (.ref a_Net) "nodes" = some (some (.ref f1))) (l1 : K.lookup f1 = some ⟨oc1, od1, .func (PySem.W.fnOf "nodes" "Net.nodes" (defArgs s_Net_nodes) (defBody s_Net_nodes) (defScope s_Net_nodes) .none kV1 dc1 pm1 an1 cd1 ct1), sl1⟩) (c1 : PySem.W.codeIn K cd1 "Net.nodes" = true) (k1 : PySem.W.keepIn K (.ref f1) = true)
    {od2 an2 : Option Addr} {sl2 : Array (Option Value)} {oc2 kV2 dc2 pm2 cd2 ct2 : Value} (a2 : PySem.W.nsIn K mainGlobals "_law_listed" = some (some (.ref f2))) (l2 : K.lookup f2 = some ⟨oc2, od2, .func (PySem.W.fnOf "_law_listed" "_law_listed" (defArgs s__law_listed) (defBody s__law_listed) (defScope s__law_listed) .none kV2 dc2 pm2 an2 cd2 ct2), sl2⟩) (c2 : PySem.W.codeIn K cd2 "_law_listed" = true) (k2 : PySem.W.keepIn K (.ref f2) = true)
    {od3 an3 : Option Addr} {sl3 : Array (Option Value)} {oc3 kV3 dc3 pm3 cd3 ct3 : Value} (a3 : PySem.W.nsIn K mainGlobals "_law_cell_at" = some (some (.ref f3))) (l3 : K.lookup f3 = some ⟨oc3, od3, .func (PySem.W.fnOf "_law_cell_at" "_law_cell_at" (defArgs s__law_cell_at) (defBody s__law_cell_at) (defScope s__law_cell_at) .none kV3 dc3 pm3 an3 cd3 ct3), sl3⟩) (c3 : PySem.W.codeIn K cd3 "_law_cell_at" = true) (k3 : PySem.W.keepIn K (.ref f3) = true)
    {od4 an4 : Option Addr} {sl4 : Array (Option Value)} {oc4 kV4 dc4 pm4 cd4 ct4 : Value} (a4 : PySem.W.nsIn K mainGlobals "weight_of" = some (some (.ref f4))) (l4 : K.lookup f4 = some ⟨oc4, od4, .func (PySem.W.fnOf "weight_of" "weight_of" (defArgs s_weight_of) (defBody s_weight_of) (defScope s_weight_of) .none kV4 dc4 pm4 an4 cd4 ct4), sl4⟩) (c4 : PySem.W.codeIn K cd4 "weight_of" = true) (k4 : PySem.W.keepIn K (.ref f4) = true)
    {od5 an5 : Option Addr} {sl5 : Array (Option Value)} {oc5 kV5 dc5 pm5 cd5 ct5 : Value} (a5 : PySem.W.findIn K (.ref a_Net) "put" = some (some (.ref f5))) (l5 : K.lookup f5 = some ⟨oc5, od5, .func (PySem.W.fnOf "put" "Net.put" (defArgs s_Net_put) (defBody s_Net_put) (defScope s_Net_put) .none kV5 dc5 pm5 an5 cd5 ct5), sl5⟩) (c5 : PySem.W.codeIn K cd5 "Net.put" = true) (k5 : PySem.W.keepIn K (.ref f5) = true)
    {od6 an6 : Option Addr} {sl6 : Array (Option Value)} {oc6 kV6 dc6 pm6 cd6 ct6 : Value} (a6 : PySem.W.nsIn K mainGlobals "_law_put" = some (some (.ref f6))) (l6 : K.lookup f6 = some ⟨oc6, od6, .func (PySem.W.fnOf "_law_put" "_law_put" (defArgs s__law_put) (defBody s__law_put) (defScope s__law_put) .none kV6 dc6 pm6 an6 cd6 ct6), sl6⟩) (c6 : PySem.W.codeIn K cd6 "_law_put" = true) (k6 : PySem.W.keepIn K (.ref f6) = true)
    {od7 an7 : Option Addr} {sl7 : Array (Option Value)} {oc7 kV7 dc7 pm7 cd7 ct7 : Value} (a7 : PySem.W.nsIn K mainGlobals "_law_weight" = some (some (.ref f7))) (l7 : K.lookup f7 = some ⟨oc7, od7, .func (PySem.W.fnOf "_law_weight" "_law_weight" (defArgs s__law_weight) (defBody s__law_weight) (defScope s__law_weight) .none kV7 dc7 pm7 an7 cd7 ct7), sl7⟩) (c7 : PySem.W.codeIn K cd7 "_law_weight" = true) (k7 : PySem.W.keepIn K (.ref f7) = true)
    {od8 an8 : Option Addr} {sl8 : Array (Option Value)} {oc8 kV8 dc8 pm8 cd8 ct8 : Value} (a8 : PySem.W.nsIn K mainGlobals "_law_step" = some (some (.ref f8))) (l8 : K.lookup f8 = some ⟨oc8, od8, .func (PySem.W.fnOf "_law_step" "_law_step" (defArgs s__law_step) (defBody s__law_step) (defScope s__law_step) .none kV8 dc8 pm8 an8 cd8 ct8), sl8⟩) (c8 : PySem.W.codeIn K cd8 "_law_step" = true) (k8 : PySem.W.keepIn K (.ref f8) = true)
    {od9 an9 : Option Addr} {sl9 : Array (Option Value)} {oc9 kV9 dc9 pm9 cd9 ct9 : Value} (a9 : PySem.W.nsIn K mainGlobals "_law_node" = some (some (.ref f9))) (l9 : K.lookup f9 = some ⟨oc9, od9, .func (PySem.W.fnOf "_law_node" "_law_node" (defArgs s__law_node) (defBody s__law_node) (defScope s__law_node) .none kV9 dc9 pm9 an9 cd9 ct9), sl9⟩) (c9 : PySem.W.codeIn K cd9 "_law_node" = true) (k9 : PySem.W.keepIn K (.ref f9) = true)
    {od10 an10 : Option Addr} {sl10 : Array (Option Value)} {oc10 kV10 dc10 pm10 cd10 ct10 : Value} (a10 : PySem.W.findIn K (.ref a_Net) "__init__" = some (some (.ref f10))) (l10 : K.lookup f10 = some ⟨oc10, od10, .func (PySem.W.fnOf "__init__" "Net.__init__" (defArgs s_Net___init__) (defBody s_Net___init__) (defScope s_Net___init__) .none kV10 dc10 pm10 an10 cd10 ct10), sl10⟩) (c10 : PySem.W.codeIn K cd10 "Net.__init__" = true) (k10 : PySem.W.keepIn K (.ref f10) = true)
    {od11 an11 : Option Addr} {sl11 : Array (Option Value)} {oc11 kV11 dc11 pm11 cd11 ct11 : Value} (a11 : PySem.W.findIn K (.ref a_Net) "weight" = some (some (.ref f11))) (l11 : K.lookup f11 = some ⟨oc11, od11, .func (PySem.W.fnOf "weight" "Net.weight" (defArgs s_Net_weight) (defBody s_Net_weight) (defScope s_Net_weight) .none kV11 dc11 pm11 an11 cd11 ct11), sl11⟩) (c11 : PySem.W.codeIn K cd11 "Net.weight" = true) (k11 : PySem.W.keepIn K (.ref f11) = true)
    {od12 an12 : Option Addr} {sl12 : Array (Option Value)} {oc12 kV12 dc12 pm12 cd12 ct12 : Value} (a12 : PySem.W.nsIn K mainGlobals "law" = some (some (.ref f12))) (l12 : K.lookup f12 = some ⟨oc12, od12, .func (PySem.W.fnOf "law" "law" (defArgs s_law) (defBody s_law) (defScope s_law) .none kV12 dc12 pm12 an12 cd12 ct12), sl12⟩) (c12 : PySem.W.codeIn K cd12 "law" = true) (k12 : PySem.W.keepIn K (.ref f12) = true)
    (j1 : PySem.W.isFn K (.ref f1) = true)
    (j5 : PySem.W.isFn K (.ref f5) = true)
    (j10 : PySem.W.isFn K (.ref f10) = true)
    (j11 : PySem.W.isFn K (.ref f11) = true)
    (mw_Net : PySem.W.makesIn K a_Net = true) (kw_Net : PySem.W.keepIn K (.ref a_Net) = true)
    (g_Net : PySem.W.nsIn K mainGlobals "Net" = some (some (.ref a_Net))) (pg_Net : PySem.W.plainGet K a_Net Str.empty = true) (hd_Net : PySem.W.hasDictIn K a_Net = true) (po_Net : PySem.W.plainOver K a_Net = true) (sa_Net : PySem.W.findIn K (.ref a_Net) "__setattr__" = some (some (.builtin "object.__setattr__")))
    (na_Net_heavy : PySem.W.findIn K (.ref a_Net) "heavy" = some none)
    (na_Net_kept : PySem.W.findIn K (.ref a_Net) "kept" = some none)
    (z_bool_ : PySem.W.nsIn K mainGlobals "bool" = some none)
    (z_enumerate : PySem.W.nsIn K mainGlobals "enumerate" = some none)
    (z_int_ : PySem.W.nsIn K mainGlobals "int" = some none)
    (z_isinstance : PySem.W.nsIn K mainGlobals "isinstance" = some none)
    (z_len_ : PySem.W.nsIn K mainGlobals "len" = some none)
    (z_list_ : PySem.W.nsIn K mainGlobals "list" = some none)
    (z_range : PySem.W.nsIn K mainGlobals "range" = some none)
    (z_tuple_ : PySem.W.nsIn K mainGlobals "tuple" = some none)
    (z_zip : PySem.W.nsIn K mainGlobals "zip" = some none)
    {tk_HEAVIEST : Tok} (v_HEAVIEST : PySem.W.nsIn K mainGlobals "HEAVIEST" = some (some (.int 16 tk_HEAVIEST)))
    {tk_MOST : Tok} (v_MOST : PySem.W.nsIn K mainGlobals "MOST" = some (some (.int 60 tk_MOST)))
    {a_BoxError : Addr} (g_BoxError : PySem.W.nsIn K mainGlobals "BoxError" = some (some (.ref a_BoxError)))
    {a_NoRow : Addr} (g_NoRow : PySem.W.nsIn K mainGlobals "NoRow" = some (some (.ref a_NoRow)))
    {a_TooMuch : Addr} (g_TooMuch : PySem.W.nsIn K mainGlobals "TooMuch" = some (some (.ref a_TooMuch)))
    (p_BoxError : PySem.W.keepIn K (.ref a_BoxError) = true) (q_BoxError : PySem.W.excIn K a_BoxError [.type "ValueError", .type "Exception", .type "BaseException", .type "object"] "ValueError.__new__" = true) (r_BoxError : PySem.W.subIn K (.ref a_BoxError) (.type "BaseException") = some true) (t_BoxError : PySem.W.typeIn K (.ref a_BoxError) = some (.type "type"))
    (p_NoRow : PySem.W.keepIn K (.ref a_NoRow) = true) (q_NoRow : PySem.W.excIn K a_NoRow [.type "ValueError", .type "Exception", .type "BaseException", .type "object"] "ValueError.__new__" = true) (r_NoRow : PySem.W.subIn K (.ref a_NoRow) (.type "BaseException") = some true) (t_NoRow : PySem.W.typeIn K (.ref a_NoRow) = some (.type "type"))
    (p_TooMuch : PySem.W.keepIn K (.ref a_TooMuch) = true) (q_TooMuch : PySem.W.excIn K a_TooMuch [.type "ValueError", .type "Exception", .type "BaseException", .type "object"] "ValueError.__new__" = true) (r_TooMuch : PySem.W.subIn K (.ref a_TooMuch) (.type "BaseException") = some true) (t_TooMuch : PySem.W.typeIn K (.ref a_TooMuch) = some (.type "type"))
    (m_TooMuch_BoxError : PySem.W.exmOne K (.ref a_TooMuch) (.ref a_BoxError) = some true)
    (o_TooMuch_NoRow : PySem.W.kitOne K (.ref a_TooMuch) (.ref a_NoRow) = some false)
    (o_TooMuch_TooMuch : PySem.W.kitOne K (.ref a_TooMuch) (.ref a_TooMuch) = some true)
    (e_TooMuch : ExcC K a_TooMuch)
    : ∃ fd : FuncData, (∀ (s : Shared) (v : Value), BindsTo s fd ⟨[v], []⟩ [("_law_script", v)]) ∧ ∀ base : Heap, K.In base → base.Ns mainGlobals mg → FnOk l.prog w K mg base (L2.CX l.prog w) 5 fa fd ["_law_script"] (spL K) := by
  have e := hfa.symm.trans (PySem.W.mg_of X G a12)
  cases e
  have F0 := fun_mk (st := s__law_whole) l0 c0 k0
  have b0 := F0.binds (ps := ["_law_found"]) fun _ _ _ _ _ _ us hl => match us, hl with | [_], _ => rfl
  have F1 := fun_mk (st := s_Net_nodes) l1 c1 k1
  have b1 := F1.binds (ps := ["self"]) fun _ _ _ _ _ _ us hl => match us, hl with | [_], _ => rfl
  have F2 := fun_mk (st := s__law_listed) l2 c2 k2
  have b2 := F2.binds (ps := ["_law_net", "_law_nodes"]) fun _ _ _ _ _ _ us hl => match us, hl with | [_, _], _ => rfl
  have F3 := fun_mk (st := s__law_cell_at) l3 c3 k3
  have b3 := F3.binds (ps := ["_law_script", "_law_k"]) fun _ _ _ _ _ _ us hl => match us, hl with | [_, _], _ => rfl
  have F4 := fun_mk (st := s_weight_of) l4 c4 k4
  have b4 := F4.binds (ps := ["node", "heavy"]) fun _ _ _ _ _ _ us hl => match us, hl with | [_, _], _ => rfl
  have F5 := fun_mk (st := s_Net_put) l5 c5 k5
  have b5 := F5.binds (ps := ["self", "node"]) fun _ _ _ _ _ _ us hl => match us, hl with | [_, _], _ => rfl
  have F6 := fun_mk (st := s__law_put) l6 c6 k6
  have b6 := F6.binds (ps := ["_law_net", "_law_node_here"]) fun _ _ _ _ _ _ us hl => match us, hl with | [_, _], _ => rfl
  have F7 := fun_mk (st := s__law_weight) l7 c7 k7
  have b7 := F7.binds (ps := ["_law_node_here", "_law_heavy"]) fun _ _ _ _ _ _ us hl => match us, hl with | [_, _], _ => rfl
  have F8 := fun_mk (st := s__law_step) l8 c8 k8
  have b8 := F8.binds (ps := ["_law_net", "_law_nodes", "_law_heavy", "_law_node_here"]) fun _ _ _ _ _ _ us hl => match us, hl with | [_, _, _, _], _ => rfl
  have F9 := fun_mk (st := s__law_node) l9 c9 k9
  have b9 := F9.binds (ps := ["_law_cell", "_law_many"]) fun _ _ _ _ _ _ us hl => match us, hl with | [_, _], _ => rfl
  have F10 := fun_mk (st := s_Net___init__) l10 c10 k10
  have b10 := F10.binds (ps := ["self"]) fun _ _ _ _ _ _ us hl => match us, hl with | [_], _ => rfl
  have F11 := fun_mk (st := s_Net_weight) l11 c11 k11
  have b11 := F11.binds (ps := ["self", "at"]) fun _ _ _ _ _ _ us hl => match us, hl with | [_, _], _ => rfl
  have F12 := fun_mk (st := s_law) l12 c12 k12
  have b12 := F12.binds (ps := ["_law_script"]) fun _ _ _ _ _ _ us hl => match us, hl with | [_], _ => rfl
  have T : Tx K mg (caF a_BoxError a_NoRow a_TooMuch a_Net) := { bool_ := PySem.W.mg_none_of X G z_bool_, enumerate := PySem.W.mg_none_of X G z_enumerate, int_ := PySem.W.mg_none_of X G z_int_, isinstance := PySem.W.mg_none_of X G z_isinstance, len_ := PySem.W.mg_none_of X G z_len_, list_ := PySem.W.mg_none_of X G z_list_, range := PySem.W.mg_none_of X G z_range, tuple_ := PySem.W.mg_none_of X G z_tuple_, zip := PySem.W.mg_none_of X G z_zip, k_HEAVIEST := kc_int (PySem.W.mg_of X G v_HEAVIEST), k_MOST := kc_int (PySem.W.mg_of X G v_MOST), cl_Net := ⟨pg_Net, hd_Net, po_Net, sa_Net⟩, na_Net_heavy := na_Net_heavy, na_Net_kept := na_Net_kept, x_BoxError := ⟨PySem.W.mg_of X G g_BoxError, p_BoxError, q_BoxError, r_BoxError, t_BoxError⟩, x_NoRow := ⟨PySem.W.mg_of X G g_NoRow, p_NoRow, q_NoRow, r_NoRow, t_NoRow⟩, x_TooMuch := ⟨PySem.W.mg_of X G g_TooMuch, p_TooMuch, q_TooMuch, r_TooMuch, t_TooMuch⟩, h_BoxError := fun y t h => (by unfold sub_BoxError at h; by_cases e0 : y = "TooMuch"; (subst e0; simp only [String.reduceEq, if_true, if_false] at h; cases h; exact m_TooMuch_BoxError); rw [if_neg e0] at h; cases h), n_BoxError := .inl (PySem.W.mg_of X G g_BoxError), i_NoRow := fun y t h => (by unfold is_NoRow at h; by_cases e0 : y = "TooMuch"; (subst e0; simp only [String.reduceEq, if_true, if_false] at h; cases h; exact ⟨e_TooMuch, o_TooMuch_NoRow⟩); rw [if_neg e0] at h; cases h), i_TooMuch := fun y t h => (by unfold is_TooMuch at h; by_cases e0 : y = "TooMuch"; (subst e0; simp only [String.reduceEq, if_true, if_false] at h; cases h; exact ⟨e_TooMuch, o_TooMuch_TooMuch⟩); rw [if_neg e0] at h; cases h) }
  refine ⟨PySem.W.fnOf "law" "law" (defArgs s_law) (defBody s_law) (defScope s_law) .none kV12 dc12 pm12 an12 cd12 ct12, fun s v => .of_eq rfl, fun base _ _ => ?_⟩
  have G__law_whole : Fo l.prog w K mg base (caF a_BoxError a_NoRow a_TooMuch a_Net) 1 "_law_whole" f__law_whole := fo_of F0 (PySem.W.mg_of X G a0) b0 (ok__law_whole T  F0)
  have O_Net_nodes : MFo l.prog w K mg base (caF a_BoxError a_NoRow a_TooMuch a_Net) 1 "Net" "nodes" f_Net_nodes := ⟨⟨_, _, _, _, Nat.le_refl _, ⟨a1, j1, k1⟩, b1, ok_Net_nodes T  F1⟩, T.cl_Net⟩
  have G__law_listed : Fo l.prog w K mg base (caF a_BoxError a_NoRow a_TooMuch a_Net) 2 "_law_listed" f__law_listed := fo_of F2 (PySem.W.mg_of X G a2) b2 (ok__law_listed T G__law_whole (⟨O_Net_nodes.mono (by decide), trivial⟩) F2)
  have G__law_cell_at : Fo l.prog w K mg base (caF a_BoxError a_NoRow a_TooMuch a_Net) 1 "_law_cell_at" f__law_cell_at := fo_of F3 (PySem.W.mg_of X G a3) b3 (ok__law_cell_at T  F3)
  have G_weight_of : Fo l.prog w K mg base (caF a_BoxError a_NoRow a_TooMuch a_Net) 1 "weight_of" f_weight_of := fo_of F4 (PySem.W.mg_of X G a4) b4 (ok_weight_of T  F4)
  have I_Net_put : MFoG l.prog w K mg base (caF a_BoxError a_NoRow a_TooMuch a_Net) 2 "Net" "put" [true, false] f_Net_put := ⟨⟨_, _, _, ⟨a5, j5, k5⟩, b5, ok_Net_put T G_weight_of F5⟩, T.cl_Net⟩
  have G__law_put : FoI l.prog w K mg base (caF a_BoxError a_NoRow a_TooMuch a_Net) 3 "_law_put" 1 f__law_put := foI_of F6 (PySem.W.mg_of X G a6) b6 (ok__law_put T I_Net_put F6)
  have G__law_weight : Fo l.prog w K mg base (caF a_BoxError a_NoRow a_TooMuch a_Net) 1 "_law_weight" f__law_weight := fo_of F7 (PySem.W.mg_of X G a7) b7 (ok__law_weight T  F7)
  have G__law_step : FoI l.prog w K mg base (caF a_BoxError a_NoRow a_TooMuch a_Net) 4 "_law_step" 3 f__law_step := foI_of F8 (PySem.W.mg_of X G a8) b8 (ok__law_step T G__law_put G__law_weight G__law_whole F8)
  have G__law_node : Fo l.prog w K mg base (caF a_BoxError a_NoRow a_TooMuch a_Net) 1 "_law_node" f__law_node := fo_of F9 (PySem.W.mg_of X G a9) b9 (ok__law_node T  F9)
  have M_Net : MkI l.prog w K mg base (caF a_BoxError a_NoRow a_TooMuch a_Net) 2 "Net" f_Net___init__ := ⟨⟨_, _, _, _, Nat.le_refl _, ⟨mw_Net, a10, j10, kw_Net⟩, PySem.W.mg_of X G g_Net, b10, ok_Net___init__ T  F10⟩⟩
  have O_Net_weight : MFo l.prog w K mg base (caF a_BoxError a_NoRow a_TooMuch a_Net) 1 "Net" "weight" f_Net_weight := ⟨⟨_, _, _, _, Nat.le_refl _, ⟨a11, j11, k11⟩, b11, ok_Net_weight T  F11⟩, T.cl_Net⟩
  exact (ok_law T G__law_listed G__law_cell_at G__law_step G__law_node G__law_whole M_Net (⟨O_Net_weight.mono (by decide), trivial⟩) (⟨O_Net_nodes.mono (by decide), trivial⟩) F12).imp fun vs H Q E hs => sp_law law_true vs H Q E hs
end
end Lw
open PySem PySem.W PyProof.Rows
set_option maxHeartbeats 0 in
theorem PySem.Challenge.cw_boxnarrow_k14_nodes_put_holds : PySem.Challenge.rw_boxnarrow_k14_nodes_put.Holds := by
  w_on; o_law; k_head; (case hw => w_witness2)
  k_fill
  refine L2.walk_of (l := PySem.Challenge.rw_boxnarrow_k14_nodes_put) (n := 63) (k := 5) (x := "_law_script") (CX := fun w => L2.CX PySem.Challenge.rw_boxnarrow_k14_nodes_put.prog w) (sp := fun w => Lw.spL _) rfl (by decide) rfl ⟨rfl, by decide, by decide⟩ (fun w h Y => PySem.W.kIn_of Y) ?F (fun _ H a ns hl _ hS => ⟨a, ns, rfl, hl, hS, fun _ => rfl⟩) (fun _ _ _ _ _ h => Lw.cx_none h)
  case F =>
    intro w mg fa h KX G hmg
    refine' Lw.all_mk KX G hmg ?a0 ?l0 ?c0 ?k0 ?a1 ?l1 ?c1 ?k1 ?a2 ?l2 ?c2 ?k2 ?a3 ?l3 ?c3 ?k3 ?a4 ?l4 ?c4 ?k4 ?a5 ?l5 ?c5 ?k5 ?a6 ?l6 ?c6 ?k6 ?a7 ?l7 ?c7 ?k7 ?a8 ?l8 ?c8 ?k8 ?a9 ?l9 ?c9 ?k9 ?a10 ?l10 ?c10 ?k10 ?a11 ?l11 ?c11 ?k11 ?a12 ?l12 ?c12 ?k12 ?j1 ?j5 ?j10 ?j11 ?mw_Net ?kw_Net ?g_Net ?pg_Net ?hd_Net ?po_Net ?sa_Net ?na_Net_heavy ?na_Net_kept ?z_bool_ ?z_enumerate ?z_int_ ?z_isinstance ?z_len_ ?z_list_ ?z_range ?z_tuple_ ?z_zip ?v_HEAVIEST ?v_MOST ?g_BoxError ?g_NoRow ?g_TooMuch ?p_BoxError ?q_BoxError ?r_BoxError ?t_BoxError ?p_NoRow ?q_NoRow ?r_NoRow ?t_NoRow ?p_TooMuch ?q_TooMuch ?r_TooMuch ?t_TooMuch ?m_TooMuch_BoxError ?o_TooMuch_NoRow ?o_TooMuch_TooMuch ?e_TooMuch
    (case g_Net => k_is); (case g_BoxError => k_is); (case g_NoRow => k_is); (case g_TooMuch => k_is); (case a0 => k_is); (case l0 => k_is); (case c0 => k_is); (case k0 => k_is); (case a1 => k_is); (case l1 => k_is); (case c1 => k_is); (case k1 => k_is); (case a2 => k_is); (case l2 => k_is); (case c2 => k_is); (case k2 => k_is); (case a3 => k_is); (case l3 => k_is); (case c3 => k_is); (case k3 => k_is); (case a4 => k_is); (case l4 => k_is); (case c4 => k_is); (case k4 => k_is); (case a5 => k_is); (case l5 => k_is); (case c5 => k_is); (case k5 => k_is); (case a6 => k_is); (case l6 => k_is); (case c6 => k_is); (case k6 => k_is); (case a7 => k_is); (case l7 => k_is); (case c7 => k_is); (case k7 => k_is); (case a8 => k_is); (case l8 => k_is); (case c8 => k_is); (case k8 => k_is); (case a9 => k_is); (case l9 => k_is); (case c9 => k_is); (case k9 => k_is); (case a10 => k_is); (case l10 => k_is); (case c10 => k_is); (case k10 => k_is); (case a11 => k_is); (case l11 => k_is); (case c11 => k_is); (case k11 => k_is); (case a12 => k_is); (case l12 => k_is); (case c12 => k_is); (case k12 => k_is); (case j1 => k_is); (case j5 => k_is); (case j10 => k_is); (case j11 => k_is); (case mw_Net => k_is); (case kw_Net => k_is); (case pg_Net => k_is); (case hd_Net => k_is); (case po_Net => k_is); (case sa_Net => k_is); (case na_Net_heavy => k_is); (case na_Net_kept => k_is); (case z_bool_ => k_is); (case z_enumerate => k_is); (case z_int_ => k_is); (case z_isinstance => k_is); (case z_len_ => k_is); (case z_list_ => k_is); (case z_range => k_is); (case z_tuple_ => k_is); (case z_zip => k_is); (case v_HEAVIEST => k_is); (case v_MOST => k_is); (case p_BoxError => k_is); (case q_BoxError => k_exc); (case r_BoxError => k_is); (case t_BoxError => k_is); (case p_NoRow => k_is); (case q_NoRow => k_exc); (case r_NoRow => k_is); (case t_NoRow => k_is); (case p_TooMuch => k_is); (case q_TooMuch => k_exc); (case r_TooMuch => k_is); (case t_TooMuch => k_is); (case m_TooMuch_BoxError => exact PySem.W.exm_ref (by k_is) (by k_is) (by k_is) (by k_is)); (case o_TooMuch_NoRow => exact Bn.kit_ref (by k_is) (by k_is) (by k_is) (by first | exact .inl rfl | exact .inr (by decide))); (case o_TooMuch_TooMuch => exact Bn.kit_same)
    (case e_TooMuch => exact ⟨by k_is, by k_is, by k_is, by k_is, by k_is, by k_is, by k_is, by k_is⟩)
