import PyProof.Rows.All
import Wide.All
import OpenK.AllK
import Wide.FinOn
import HandS.ForExc
import HandS.ForMost
import HandS.Wide
import HandS.IsInst
import HandS.ExcIs
import HandS.Deep
import HandS.SortInts
import HandS.TupLe
import HandS.Rev
import HandS.More
import HandS.Iter
import HandS.Zip0
import HandS.Head0
import HandS.Head1
import HandS.Head2
import HandS.HeadHook1
import HandS.HeadHook2
import HandS.HeadHook3
import HandS.Codes
import KE.SortData
import HandS.Conv
import HandS.WordsDict
import PySem.Challenge.RW_boxnarrow_k13_trees_of_words
set_option Elab.async false
set_option linter.all false
set_option maxRecDepth 100000
set_option maxHeartbeats 2000000
namespace Bn
open PySem PySem.Spec PyProof.Rows L2
open HandSHeadRun (frNat frNat_eq)
section
variable {α : Type}
end
def RunQ {β : Type} (r : PySem.W.OpenRow) (M : Nat) (w : World) (q : PySem.W.SharedT → β) (v : β) : Prop :=
  ∀ os : OsState, (HandSHeadRun.endF (HandSHeadRun.stepQ (HandSHeadRun.denQ HandSHeadRun.tabQ) r.prog w) M r.prog w os).map q = some v
theorem RunQ.and {β γ : Type} {r : PySem.W.OpenRow} {M : Nat} {w : World} {q1 : PySem.W.SharedT → β} {v1 : β} {q2 : PySem.W.SharedT → γ} {v2 : γ} (h1 : RunQ r M w q1 v1) (h2 : RunQ r M w q2 v2) : RunQ r M w (fun s => (q1 s, q2 s)) (v1, v2) := by
  intro os
  have e1 := h1 os
  have e2 := h2 os
  revert e1 e2
  generalize HandSHeadRun.endF _ M r.prog w os = o
  intro e1 e2
  cases o with
  | none => cases e1
  | some s =>
    have f1 : q1 s = v1 := Option.some.inj e1
    have f2 : q2 s = v2 := Option.some.inj e2
    show some (q1 s, q2 s) = _
    rw [f1, f2]
theorem RunQ.to {β γ : Type} {r : PySem.W.OpenRow} {M : Nat} {w : World} {q : PySem.W.SharedT → β} {v : β} {p : PySem.W.SharedT → γ} {u : γ} (h : RunQ r M w q v) (t : ∀ s, q s = v → p s = u) : RunQ r M w p u := by
  intro os
  have e := h os
  revert e
  generalize HandSHeadRun.endF _ M r.prog w os = o
  intro e
  cases o with
  | none => cases e
  | some s =>
    have f : q s = v := Option.some.inj e
    show some (p s) = _
    rw [t s f]
end Bn
namespace Lw
open PySem PySem.Spec PyProof.Rows L2
def topS (i : Nat) : Stmt := PySem.Challenge.pw_boxnarrow_k13_trees_of_words.main.body.getD i (.Pass ⟨0, 0, 0, 0⟩)
abbrev s_look_at_brackets : Stmt := topS 19
abbrev s_word_at : Stmt := topS 20
abbrev s_is_name : Stmt := topS 13
abbrev s_whole_of : Stmt := topS 11
abbrev s_divisor : Stmt := topS 5
abbrev s_fraction : Stmt := topS 6
abbrev s_number_of : Stmt := topS 12
abbrev s_atom_at : Stmt := topS 24
abbrev s_power_at : Stmt := topS 23
abbrev s_product_at : Stmt := topS 22
abbrev s_sum_at : Stmt := topS 21
abbrev s_tree_of : Stmt := topS 18
abbrev s__law_refused : Stmt := topS 37
abbrev s__law_whole : Stmt := topS 27
abbrev s__law_alike : Stmt := topS 28
abbrev s__law_edges : Stmt := topS 38
abbrev s__law_atom : Stmt := topS 29
abbrev s__law_shut : Stmt := topS 30
abbrev s__law_fits : Stmt := topS 34
abbrev s__law_at_least : Stmt := topS 31
abbrev s__law_raised : Stmt := topS 33
abbrev s__law_joined : Stmt := topS 32
abbrev s__law_grown : Stmt := topS 35
abbrev s__law_cell_at : Stmt := topS 26
abbrev s__law_no_atom : Stmt := topS 36
abbrev s_law : Stmt := topS 39
def ks_KEPT : List Str := ["let", "in", "grid", "fine", "looks", "solve", "boxes", "point", "right", "islands"]
end Lw
namespace Bn
open PySem PySem.Spec PyProof.Rows L2
inductive D where
  | non | bl (b : Bool) | int (i : Int) | str (s : Str) | ty (n : String)
  | tup (xs : List D)
  | lst (m : Bool) (xs : List D)
  | cst (xs : List D)
  | obj (m : Bool) (c : Str) (ns : List Str) (xs : List D)
  | val (v : V)
  | tpo (xs : List D)
  | dct (m : Bool) (ks : List Key) (xs : List D)
  | exc (c : Str)
  deriving Inhabited
abbrev Env := List (Option D)
abbrev Ct := Addr → Nat
def isFz : D → Bool
  | .lst true _ => false
  | .obj true _ _ _ => false
  | .tpo _ => false
  | .dct true _ _ => false
  | _ => true
mutual
def freeze : D → D
  | .lst true xs => .lst false (freezeL xs)
  | .lst false xs => .lst false xs
  | .obj true c ns xs => .obj false c ns (freezeL xs)
  | .obj false c ns xs => .obj false c ns xs
  | .tpo xs => .tup (freezeL xs)
  | .dct true ks xs => .dct false ks (freezeL xs)
  | .dct false ks xs => .dct false ks xs
  | .val v => .val v
  | .exc c => .exc c
  | .non => .non | .bl b => .bl b | .int i => .int i | .str s => .str s | .ty n => .ty n | .tup xs => .tup xs | .cst xs => .cst xs
def freezeL : List D → List D
  | [] => []
  | x :: xs => freeze x :: freezeL xs
end
section
variable (K : PySem.W.Frag) (ca : Str → Addr)
mutual
def Rep (F : Hp) : D → V → Prop
  | .non, v => v = .non
  | .bl b, v => v = .bl b
  | .int i, v => v = .int i
  | .str s, v => v = .str s
  | .ty n, v => v = .ty n
  | .val w, v => v = w
  | .exc c, v => ∃ a oe u, v = .ref a ∧ F a = some (.frz oe u) ∧ Zc (.ref (ca c)) none oe ∧ ∃ vs, oe.data = .fields vs
  | .tpo _, _ => False
  | .dct true _ _, _ => False
  | .dct false ks ds, v => ∃ a vs, v = .ref a ∧ F a = some (.dK (ks.zip vs)) ∧ ks.length = vs.length ∧ RepL F ds vs
  | .tup ds, v => ∃ a vs, v = .ref a ∧ SqT K F a vs ∧ RepL F ds vs
  | .lst true _, _ => False
  | .lst false ds, v => ∃ a vs, v = .ref a ∧ F a = some (.lst vs) ∧ RepL F ds vs
  | .cst ds, v => ∃ a vs, v = .ref a ∧ SqL K F a vs ∧ RepL F ds vs
  | .obj true _ _ _, _ => False
  | .obj false c ns ds, v => ∃ a dx fs vs, v = .ref a ∧ F a = some (.ins (ca c) dx fs) ∧ fs = ns.zip vs ∧ ns.length = vs.length ∧ RepL F ds vs
def RepL (F : Hp) : List D → List V → Prop
  | [], vs => vs = []
  | d :: ds, vs => ∃ v r, vs = v :: r ∧ Rep F d v ∧ RepL F ds r
end
mutual
def RepO (F H : Hp) : D → V → Ct → Prop
  | .lst true ds, v, f => ∃ a vs g, v = .ref a ∧ H a = some (.lst vs) ∧ RepOs F H ds vs g ∧ ∀ b, f b = (if b = a then 1 else 0) + g b
  | .obj true c ns ds, v, f => ∃ a dx fs vs g, v = .ref a ∧ H a = some (.ins (ca c) dx fs) ∧ fs = ns.zip vs ∧ ns.length = vs.length ∧ RepOs F H ds vs g ∧ ∀ b, f b = (if b = a then 1 else 0) + g b
  | .lst false ds, v, f => Rep K ca F (.lst false ds) v ∧ ∀ b, f b = 0
  | .obj false c ns ds, v, f => Rep K ca F (.obj false c ns ds) v ∧ ∀ b, f b = 0
  | .non, v, f => Rep K ca F .non v ∧ ∀ b, f b = 0
  | .bl x, v, f => Rep K ca F (.bl x) v ∧ ∀ b, f b = 0
  | .int x, v, f => Rep K ca F (.int x) v ∧ ∀ b, f b = 0
  | .str x, v, f => Rep K ca F (.str x) v ∧ ∀ b, f b = 0
  | .ty x, v, f => Rep K ca F (.ty x) v ∧ ∀ b, f b = 0
  | .val x, v, f => Rep K ca F (.val x) v ∧ ∀ b, f b = 0
  | .exc x, v, f => Rep K ca F (.exc x) v ∧ ∀ b, f b = 0
  | .tpo ds, v, f => ∃ a vs, v = .ref a ∧ SqT K F a vs ∧ RepOs F H ds vs f
  | .dct true ks ds, v, f => ∃ a vs g, v = .ref a ∧ H a = some (.dK (ks.zip vs)) ∧ ks.length = vs.length ∧ RepOs F H ds vs g ∧ ∀ b, f b = (if b = a then 1 else 0) + g b
  | .dct false ks ds, v, f => Rep K ca F (.dct false ks ds) v ∧ ∀ b, f b = 0
  | .tup x, v, f => Rep K ca F (.tup x) v ∧ ∀ b, f b = 0
  | .cst x, v, f => Rep K ca F (.cst x) v ∧ ∀ b, f b = 0
def RepOs (F H : Hp) : List D → List V → Ct → Prop
  | [], vs, f => vs = [] ∧ ∀ b, f b = 0
  | d :: ds, vs, f => ∃ v r f1 f2, vs = v :: r ∧ RepO F H d v f1 ∧ RepOs F H ds r f2 ∧ ∀ b, f b = f1 b + f2 b
end
end
section
variable {K : PySem.W.Frag} {ca : Str → Addr} {F F' H H' : Hp}
theorem sqT_same {K : PySem.W.Frag} {H H' : Hp} {a : Addr} {xs : List V} (e : Same H H') (h : SqT K H a xs) : SqT K H' a xs := by
  rcases h with (h | ⟨o, h⟩) | h
  · exact .inl (.inl (e _ _ h))
  · exact .inl (.inr ⟨o, e _ _ h⟩)
  · exact .inr h
mutual
theorem Rep.mono (e : Same F F') : ∀ (d : D) (v : V), Rep K ca F d v → Rep K ca F' d v
  | .non, _, h => h
  | .bl _, _, h => h
  | .int _, _, h => h
  | .str _, _, h => h
  | .ty _, _, h => h
  | .val _, _, h => h
  | .exc _, _, h => by
    obtain ⟨a, oe, u, h1, h2, h3⟩ := h
    exact ⟨a, oe, u, h1, e _ _ h2, h3⟩
  | .tpo _, _, h => h
  | .dct true _ _, _, h => h
  | .dct false ks ds, v, h => by
    obtain ⟨a, vs, h1, h2, h3, h4⟩ := h
    exact ⟨a, vs, h1, e _ _ h2, h3, RepL.mono e ds vs h4⟩
  | .tup ds, v, h => by
    obtain ⟨a, vs, h1, h2, h3⟩ := h
    exact ⟨a, vs, h1, sqT_same e h2, RepL.mono e ds vs h3⟩
  | .lst true _, _, h => h
  | .lst false ds, v, h => by
    obtain ⟨a, vs, h1, h2, h3⟩ := h
    exact ⟨a, vs, h1, e _ _ h2, RepL.mono e ds vs h3⟩
  | .cst ds, v, h => by
    obtain ⟨a, vs, h1, h2, h3⟩ := h
    exact ⟨a, vs, h1, e.seq h2, RepL.mono e ds vs h3⟩
  | .obj true _ _ _, _, h => h
  | .obj false c ns ds, v, h => by
    obtain ⟨a, dx, fs, vs, h1, h2, h3, h4, h5⟩ := h
    exact ⟨a, dx, fs, vs, h1, e _ _ h2, h3, h4, RepL.mono e ds vs h5⟩
theorem RepL.mono (e : Same F F') : ∀ (ds : List D) (vs : List V), RepL K ca F ds vs → RepL K ca F' ds vs
  | [], _, h => h
  | d :: ds, _, h => by
    obtain ⟨v, r, h1, h2, h3⟩ := h
    exact ⟨v, r, h1, Rep.mono e d v h2, RepL.mono e ds r h3⟩
end
theorem repO_fz {d : D} (hd : isFz d = true) {v : V} {f : Ct} : RepO K ca F H d v f ↔ (Rep K ca F d v ∧ ∀ b, f b = 0) := by
  cases d with
  | lst m xs => cases m with
    | true => cases hd
    | false => exact Iff.rfl
  | obj m c ns xs => cases m with
    | true => cases hd
    | false => exact Iff.rfl
  | tpo xs => cases hd
  | dct m ks xs => cases m with
    | true => cases hd
    | false => exact Iff.rfl
  | _ => exact Iff.rfl
theorem rep_isFz {d : D} {v : V} (h : Rep K ca F d v) : isFz d = true := by
  cases d with
  | lst m xs => cases m with
    | true => exact h.elim
    | false => rfl
  | obj m c ns xs => cases m with
    | true => exact h.elim
    | false => rfl
  | tpo xs => exact h.elim
  | dct m ks xs => cases m with
    | true => exact h.elim
    | false => rfl
  | _ => rfl
theorem Rep.o {d : D} {v : V} (h : Rep K ca F d v) : RepO K ca F H d v (fun _ => 0) := (repO_fz (rep_isFz h)).mpr ⟨h, fun _ => rfl⟩
theorem RepL.os : ∀ {ds : List D} {vs : List V}, RepL K ca F ds vs → RepOs K ca F H ds vs (fun _ => 0)
  | [], _, h => ⟨h, fun _ => rfl⟩
  | _ :: _, _, ⟨v, r, h1, h2, h3⟩ => ⟨v, r, _, _, h1, h2.o, h3.os, fun _ => rfl⟩
mutual
theorem RepO.mono (e : Same F F') : ∀ (d : D) (v : V) (f : Ct), (∀ a, 0 < f a → H' a = H a) → RepO K ca F H d v f → RepO K ca F' H' d v f
  | .lst true ds, v, f, k, h => by
    obtain ⟨a, vs, g, h1, h2, h3, h4⟩ := h
    refine ⟨a, vs, g, h1, (k a (by rw [h4, if_pos rfl]; omega)).trans h2, RepOs.mono e ds vs g (fun b hb => k b (by rw [h4]; omega)) h3, h4⟩
  | .obj true c ns ds, v, f, k, h => by
    obtain ⟨a, dx, fs, vs, g, h1, h2, h5, h6, h3, h4⟩ := h
    refine ⟨a, dx, fs, vs, g, h1, (k a (by rw [h4, if_pos rfl]; omega)).trans h2, h5, h6, RepOs.mono e ds vs g (fun b hb => k b (by rw [h4]; omega)) h3, h4⟩
  | .lst false ds, v, f, k, h => ⟨Rep.mono e _ _ h.1, h.2⟩
  | .obj false c ns ds, v, f, k, h => ⟨Rep.mono e _ _ h.1, h.2⟩
  | .non, v, f, k, h => ⟨Rep.mono e _ _ h.1, h.2⟩
  | .bl _, v, f, k, h => ⟨Rep.mono e _ _ h.1, h.2⟩
  | .int _, v, f, k, h => ⟨Rep.mono e _ _ h.1, h.2⟩
  | .str _, v, f, k, h => ⟨Rep.mono e _ _ h.1, h.2⟩
  | .ty _, v, f, k, h => ⟨Rep.mono e _ _ h.1, h.2⟩
  | .val _, v, f, k, h => ⟨Rep.mono e _ _ h.1, h.2⟩
  | .exc _, v, f, k, h => ⟨Rep.mono e _ _ h.1, h.2⟩
  | .tpo ds, v, f, k, h => by
    obtain ⟨a, vs, h1, h2, h3⟩ := h
    exact ⟨a, vs, h1, sqT_same e h2, RepOs.mono e ds vs f k h3⟩
  | .dct true ks ds, v, f, k, h => by
    obtain ⟨a, vs, g, h1, h2, h5, h3, h4⟩ := h
    refine ⟨a, vs, g, h1, (k a (by rw [h4, if_pos rfl]; omega)).trans h2, h5, RepOs.mono e ds vs g (fun b hb => k b (by rw [h4]; omega)) h3, h4⟩
  | .dct false _ _, v, f, k, h => ⟨Rep.mono e _ _ h.1, h.2⟩
  | .tup _, v, f, k, h => ⟨Rep.mono e _ _ h.1, h.2⟩
  | .cst _, v, f, k, h => ⟨Rep.mono e _ _ h.1, h.2⟩
theorem RepOs.mono (e : Same F F') : ∀ (ds : List D) (vs : List V) (f : Ct), (∀ a, 0 < f a → H' a = H a) → RepOs K ca F H ds vs f → RepOs K ca F' H' ds vs f
  | [], _, _, _, h => h
  | d :: ds, _, f, k, h => by
    obtain ⟨v, r, f1, f2, h1, h2, h3, h4⟩ := h
    exact ⟨v, r, f1, f2, h1, RepO.mono e d v f1 (fun b hb => k b (by rw [h4]; omega)) h2, RepOs.mono e ds r f2 (fun b hb => k b (by rw [h4]; omega)) h3, h4⟩
end
mutual
theorem RepO.there : ∀ (d : D) (v : V) (f : Ct), RepO K ca F H d v f → ∀ a, 0 < f a → H a ≠ none
  | .lst true ds, v, f, h, b, hb => by
    obtain ⟨a, vs, g, h1, h2, h3, h4⟩ := h
    by_cases e : b = a
    · subst e; rw [h2]; exact fun z => by cases z
    · rw [h4, if_neg e] at hb; exact RepOs.there ds vs g h3 b (by omega)
  | .obj true c ns ds, v, f, h, b, hb => by
    obtain ⟨a, dx, fs, vs, g, h1, h2, h5, h6, h3, h4⟩ := h
    by_cases e : b = a
    · subst e; rw [h2]; exact fun z => by cases z
    · rw [h4, if_neg e] at hb; exact RepOs.there ds vs g h3 b (by omega)
  | .lst false ds, v, f, h, b, hb => by rw [h.2] at hb; omega
  | .obj false c ns ds, v, f, h, b, hb => by rw [h.2] at hb; omega
  | .non, v, f, h, b, hb => by rw [h.2] at hb; omega
  | .bl _, v, f, h, b, hb => by rw [h.2] at hb; omega
  | .int _, v, f, h, b, hb => by rw [h.2] at hb; omega
  | .str _, v, f, h, b, hb => by rw [h.2] at hb; omega
  | .ty _, v, f, h, b, hb => by rw [h.2] at hb; omega
  | .val _, v, f, h, b, hb => by rw [h.2] at hb; omega
  | .exc _, v, f, h, b, hb => by rw [h.2] at hb; omega
  | .tpo ds, v, f, h, b, hb => by
    obtain ⟨a, vs, h1, h2, h3⟩ := h
    exact RepOs.there ds vs f h3 b hb
  | .dct true ks ds, v, f, h, b, hb => by
    obtain ⟨a, vs, g, h1, h2, h5, h3, h4⟩ := h
    by_cases e : b = a
    · subst e; rw [h2]; exact fun z => by cases z
    · rw [h4, if_neg e] at hb; exact RepOs.there ds vs g h3 b (by omega)
  | .dct false _ _, v, f, h, b, hb => by rw [h.2] at hb; omega
  | .tup _, v, f, h, b, hb => by rw [h.2] at hb; omega
  | .cst _, v, f, h, b, hb => by rw [h.2] at hb; omega
theorem RepOs.there : ∀ (ds : List D) (vs : List V) (f : Ct), RepOs K ca F H ds vs f → ∀ a, 0 < f a → H a ≠ none
  | [], _, f, h, b, hb => by rw [h.2] at hb; omega
  | d :: ds, _, f, h, b, hb => by
    obtain ⟨v, r, f1, f2, h1, h2, h3, h4⟩ := h
    rw [h4] at hb
    by_cases q : 0 < f1 b
    · exact RepO.there d v f1 h2 b q
    · exact RepOs.there ds r f2 h3 b (by omega)
end
mutual
theorem RepO.fz (e : Same F F') : ∀ (d : D) (v : V) (f : Ct), (∀ a, 0 < f a → F' a = H a) → RepO K ca F H d v f → Rep K ca F' (freeze d) v
  | .lst true ds, v, f, k, h => by
    obtain ⟨a, vs, g, h1, h2, h3, h4⟩ := h
    exact ⟨a, vs, h1, (k a (by rw [h4, if_pos rfl]; omega)).trans h2, RepOs.fz e ds vs g (fun b hb => k b (by rw [h4]; omega)) h3⟩
  | .obj true c ns ds, v, f, k, h => by
    obtain ⟨a, dx, fs, vs, g, h1, h2, h5, h6, h3, h4⟩ := h
    exact ⟨a, dx, fs, vs, h1, (k a (by rw [h4, if_pos rfl]; omega)).trans h2, h5, h6, RepOs.fz e ds vs g (fun b hb => k b (by rw [h4]; omega)) h3⟩
  | .lst false ds, v, f, k, h => Rep.mono e _ _ h.1
  | .obj false c ns ds, v, f, k, h => Rep.mono e _ _ h.1
  | .non, v, f, k, h => Rep.mono e _ _ h.1
  | .bl _, v, f, k, h => Rep.mono e _ _ h.1
  | .int _, v, f, k, h => Rep.mono e _ _ h.1
  | .str _, v, f, k, h => Rep.mono e _ _ h.1
  | .ty _, v, f, k, h => Rep.mono e _ _ h.1
  | .val _, v, f, k, h => Rep.mono e _ _ h.1
  | .exc _, v, f, k, h => Rep.mono e _ _ h.1
  | .tpo ds, v, f, k, h => by
    obtain ⟨a, vs, h1, h2, h3⟩ := h
    exact ⟨a, vs, h1, sqT_same e h2, RepOs.fz e ds vs f k h3⟩
  | .dct true ks ds, v, f, k, h => by
    obtain ⟨a, vs, g, h1, h2, h5, h3, h4⟩ := h
    exact ⟨a, vs, h1, (k a (by rw [h4, if_pos rfl]; omega)).trans h2, h5, RepOs.fz e ds vs g (fun b hb => k b (by rw [h4]; omega)) h3⟩
  | .dct false _ _, v, f, k, h => Rep.mono e _ _ h.1
  | .tup _, v, f, k, h => Rep.mono e _ _ h.1
  | .cst _, v, f, k, h => Rep.mono e _ _ h.1
theorem RepOs.fz (e : Same F F') : ∀ (ds : List D) (vs : List V) (f : Ct), (∀ a, 0 < f a → F' a = H a) → RepOs K ca F H ds vs f → RepL K ca F' (freezeL ds) vs
  | [], _, _, _, h => h.1
  | d :: ds, _, f, k, h => by
    obtain ⟨v, r, f1, f2, h1, h2, h3, h4⟩ := h
    exact ⟨v, r, h1, RepO.fz e d v f1 (fun b hb => k b (by rw [h4]; omega)) h2, RepOs.fz e ds r f2 (fun b hb => k b (by rw [h4]; omega)) h3⟩
end
theorem RepL.length : ∀ {ds : List D} {vs : List V}, RepL K ca F ds vs → vs.length = ds.length
  | [], _, h => by have h : _ = [] := h; rw [h]; rfl
  | _ :: _, _, ⟨v, r, h1, h2, h3⟩ => by rw [h1, List.length_cons, List.length_cons, h3.length]
theorem RepOs.length : ∀ {ds : List D} {vs : List V} {f : Ct}, RepOs K ca F H ds vs f → vs.length = ds.length
  | [], _, _, h => by rw [h.1]; rfl
  | _ :: _, _, _, ⟨v, r, _, _, h1, h2, h3, _⟩ => by rw [h1, List.length_cons, List.length_cons, h3.length]
theorem RepL.get : ∀ {ds : List D} {vs : List V} {i : Nat} {d : D}, RepL K ca F ds vs → ds[i]? = some d → ∃ v, vs[i]? = some v ∧ Rep K ca F d v
  | [], _, _, _, _, e => by simp at e
  | d :: _, _, 0, _, ⟨v, r, h1, h2, h3⟩, e => by simp at e; subst e; subst h1; exact ⟨v, rfl, h2⟩
  | _ :: _, _, i + 1, d, ⟨v, r, h1, h2, h3⟩, e => by subst h1; simpa using h3.get (i := i) (by simpa using e)
theorem RepOs.get : ∀ {ds : List D} {vs : List V} {f : Ct} {i : Nat} {d : D}, RepOs K ca F H ds vs f → ds[i]? = some d → ∃ v g, vs[i]? = some v ∧ RepO K ca F H d v g
  | [], _, _, _, _, _, e => by simp at e
  | d :: _, _, _, 0, _, ⟨v, r, f1, f2, h1, h2, h3, _⟩, e => by simp at e; subst e; subst h1; exact ⟨v, f1, rfl, h2⟩
  | _ :: _, _, _, i + 1, d, ⟨v, r, f1, f2, h1, h2, h3, _⟩, e => by subst h1; simpa using h3.get (i := i) (by simpa using e)
theorem RepOs.append : ∀ {ds es : List D} {vs us : List V} {f g : Ct}, RepOs K ca F H ds vs f → RepOs K ca F H es us g → RepOs K ca F H (ds ++ es) (vs ++ us) (fun b => f b + g b)
  | [], es, _, us, f, g, h, k => by
    obtain ⟨rfl, h2⟩ := h
    have e : (fun b => f b + g b) = g := funext fun b => by rw [h2]; omega
    rw [e]; exact k
  | _ :: _, _, _, _, f, g, ⟨v, r, f1, f2, h1, h2, h3, h4⟩, k => by
    subst h1
    exact ⟨v, _, f1, _, rfl, h2, h3.append k, fun b => by show f b + g b = f1 b + (f2 b + g b); rw [h4]; omega⟩
theorem RepOs.split : ∀ {ds es : List D} {ws : List V} {f : Ct}, RepOs K ca F H (ds ++ es) ws f → ∃ vs us g1 g2, ws = vs ++ us ∧ RepOs K ca F H ds vs g1 ∧ RepOs K ca F H es us g2 ∧ ∀ b, f b = g1 b + g2 b
  | [], es, ws, f, h => ⟨[], ws, fun _ => 0, f, rfl, ⟨rfl, fun _ => rfl⟩, h, fun b => by show f b = 0 + f b; omega⟩
  | _ :: _, _, _, f, ⟨v, r, f1, f2, h1, h2, h3, h4⟩ => by
    obtain ⟨vs, us, g1, g2, e, k1, k2, k3⟩ := RepOs.split h3
    subst h1; subst e
    exact ⟨v :: vs, us, fun b => f1 b + g1 b, g2, rfl, ⟨v, vs, f1, g1, rfl, h2, k1, fun _ => rfl⟩, k2, fun b => by show f b = (f1 b + g1 b) + g2 b; rw [h4, k3]; omega⟩
theorem RepOs.split' {ds es : List D} {vs us : List V} {f : Ct} (h : RepOs K ca F H (ds ++ es) (vs ++ us) f) (hl : vs.length = ds.length) : ∃ g1 g2, RepOs K ca F H ds vs g1 ∧ RepOs K ca F H es us g2 ∧ ∀ b, f b = g1 b + g2 b := by
  obtain ⟨vs', us', g1, g2, e, k1, k2, k3⟩ := h.split
  have hl' := k1.length
  obtain ⟨rfl, rfl⟩ := List.append_inj e (by omega)
  exact ⟨g1, g2, k1, k2, k3⟩
end
section
variable (K : PySem.W.Frag) (ca : Str → Addr) (F H : Hp)
def Sl : Env → L2.St → Ct → Prop
  | [], σ, f => σ = [] ∧ ∀ b, f b = 0
  | none :: τ, σ, f => ∃ x r, σ = x :: r ∧ Sl τ r f
  | some d :: τ, σ, f => ∃ v r f1 f2, σ = some v :: r ∧ RepO K ca F H d v f1 ∧ Sl τ r f2 ∧ ∀ b, f b = f1 b + f2 b
end
section
variable {K : PySem.W.Frag} {ca : Str → Addr} {F F' H H' : Hp}
theorem Sl.mono (e : Same F F') : ∀ {τ : Env} {σ : L2.St} {f : Ct}, (∀ a, 0 < f a → H' a = H a) → Sl K ca F H τ σ f → Sl K ca F' H' τ σ f
  | [], _, _, _, h => h
  | none :: _, _, _, k, ⟨x, r, h1, h2⟩ => ⟨x, r, h1, Sl.mono e k h2⟩
  | some _ :: _, _, f, k, ⟨v, r, f1, f2, h1, h2, h3, h4⟩ => ⟨v, r, f1, f2, h1, RepO.mono e _ _ _ (fun b hb => k b (by rw [h4]; omega)) h2, Sl.mono e (fun b hb => k b (by rw [h4]; omega)) h3, h4⟩
theorem Sl.there : ∀ {τ : Env} {σ : L2.St} {f : Ct}, Sl K ca F H τ σ f → ∀ a, 0 < f a → H a ≠ none
  | [], _, _, h, b, hb => by rw [h.2] at hb; omega
  | none :: _, _, _, ⟨x, r, h1, h2⟩, b, hb => Sl.there h2 b hb
  | some _ :: _, _, f, ⟨v, r, f1, f2, h1, h2, h3, h4⟩, b, hb => by
    rw [h4] at hb
    by_cases q : 0 < f1 b
    · exact RepO.there _ v f1 h2 b q
    · exact Sl.there h3 b (by omega)
theorem Sl.length : ∀ {τ : Env} {σ : L2.St} {f : Ct}, Sl K ca F H τ σ f → σ.length = τ.length
  | [], _, _, h => by rw [h.1]; rfl
  | none :: _, _, _, ⟨x, r, h1, h2⟩ => by rw [h1, List.length_cons, List.length_cons, Sl.length h2]
  | some _ :: _, _, f, ⟨v, r, f1, f2, h1, h2, h3, h4⟩ => by rw [h1, List.length_cons, List.length_cons, Sl.length h3]
theorem Sl.get : ∀ {τ : Env} {σ : L2.St} {f : Ct} {i : Nat} {d : D}, Sl K ca F H τ σ f → τ[i]? = some (some d) → ∃ v g, σ[i]? = some (some v) ∧ RepO K ca F H d v g
  | [], _, _, _, _, _, e => by simp at e
  | none :: _, _, _, 0, _, _, e => by simp at e
  | none :: _, _, _, i + 1, _, ⟨x, r, h1, h2⟩, e => by subst h1; simpa using Sl.get (i := i) h2 (by simpa using e)
  | some _ :: _, _, _, 0, _, ⟨v, r, f1, f2, h1, h2, h3, h4⟩, e => by simp at e; subst e; subst h1; exact ⟨v, f1, rfl, h2⟩
  | some _ :: _, _, _, i + 1, _, ⟨v, r, f1, f2, h1, h2, h3, h4⟩, e => by subst h1; simpa using Sl.get (i := i) h3 (by simpa using e)
theorem Sl.take : ∀ {τ : Env} {σ : L2.St} {f : Ct} {i : Nat} {d : D}, Sl K ca F H τ σ f → τ[i]? = some (some d) → ∃ v g1 g2, σ[i]? = some (some v) ∧ RepO K ca F H d v g1 ∧ Sl K ca F H (τ.set i none) σ g2 ∧ ∀ b, f b = g1 b + g2 b
  | [], _, _, _, _, _, e => by simp at e
  | none :: _, _, _, 0, _, _, e => by simp at e
  | none :: _, _, _, i + 1, _, ⟨x, r, h1, h2⟩, e => by
    subst h1
    obtain ⟨v, g1, g2, k1, k2, k3, k4⟩ := Sl.take (i := i) h2 (by simpa using e)
    exact ⟨v, g1, g2, by simpa using k1, k2, ⟨x, r, rfl, k3⟩, k4⟩
  | some _ :: _, _, _, 0, _, ⟨v, r, f1, f2, h1, h2, h3, h4⟩, e => by simp at e; subst e; subst h1; exact ⟨v, f1, f2, rfl, h2, ⟨_, r, rfl, h3⟩, h4⟩
  | some _ :: _, _, f, i + 1, _, ⟨v, r, f1, f2, h1, h2, h3, h4⟩, e => by
    subst h1
    obtain ⟨v', g1, g2, k1, k2, k3, k4⟩ := Sl.take (i := i) h3 (by simpa using e)
    exact ⟨v', g1, fun b => f1 b + g2 b, by simpa using k1, k2, ⟨v, r, f1, g2, rfl, h2, k3, fun _ => rfl⟩, fun b => by show f b = g1 b + (f1 b + g2 b); rw [h4, k4]; omega⟩
theorem Sl.put : ∀ {τ : Env} {σ : L2.St} {f : Ct} {i : Nat} {d : D} {v : V} {g : Ct}, Sl K ca F H τ σ f → i < τ.length → RepO K ca F H d v g → ∃ f2, Sl K ca F H (τ.set i (some d)) (σ.set i (some v)) f2 ∧ ∀ b, f2 b ≤ f b + g b
  | [], _, _, _, _, _, _, _, e, _ => by simp at e
  | none :: _, _, f, 0, _, v, g, ⟨x, r, h1, h2⟩, e, hv => by subst h1; exact ⟨fun b => g b + f b, ⟨v, r, g, f, rfl, hv, h2, fun _ => rfl⟩, fun b => by show g b + f b ≤ f b + g b; omega⟩
  | none :: _, _, f, i + 1, _, v, g, ⟨x, r, h1, h2⟩, e, hv => by
    subst h1
    obtain ⟨f2, k1, k2⟩ := Sl.put (i := i) h2 (by simpa using e) hv
    exact ⟨f2, ⟨x, _, rfl, k1⟩, k2⟩
  | some _ :: _, _, f, 0, _, v, g, ⟨w, r, f1, f2, h1, h2, h3, h4⟩, e, hv => by subst h1; exact ⟨fun b => g b + f2 b, ⟨v, r, g, f2, rfl, hv, h3, fun _ => rfl⟩, fun b => by show g b + f2 b ≤ f b + g b; rw [h4]; omega⟩
  | some _ :: _, _, f, i + 1, _, v, g, ⟨w, r, f1, f2, h1, h2, h3, h4⟩, e, hv => by
    subst h1
    obtain ⟨f3, k1, k2⟩ := Sl.put (i := i) h3 (by simpa using e) hv
    exact ⟨fun b => f1 b + f3 b, ⟨w, _, f1, f3, rfl, h2, k1, fun _ => rfl⟩, fun b => by show f1 b + f3 b ≤ f b + g b; have := k2 b; rw [h4]; omega⟩
theorem Sl.drop : ∀ {τ : Env} {σ : L2.St} {f : Ct} {i : Nat}, Sl K ca F H τ σ f → ∃ f2, Sl K ca F H (τ.set i none) σ f2 ∧ ∀ b, f2 b ≤ f b := fun {τ σ f i} h => by
  cases e : τ[i]? with
  | none => rw [List.set_eq_of_length_le (by simpa using e)]; exact ⟨f, h, fun _ => Nat.le_refl _⟩
  | some x =>
    cases x with
    | none =>
      have : τ.set i none = τ := by
        apply List.ext_getElem?
        intro j
        rw [List.getElem?_set]
        split
        · rename_i q; subst q; split
          · exact e.symm
          · rename_i hl; rw [List.getElem?_eq_none (by omega)]
        · rfl
      rw [this]; exact ⟨f, h, fun _ => Nat.le_refl _⟩
    | some d =>
      obtain ⟨v, g1, g2, _, _, k, q⟩ := h.take e
      exact ⟨g2, k, fun b => by rw [q]; omega⟩
end
structure Bx where
  ca : Str → Addr
  F0 : Hp
  R : Hp
  io : List (Nat × V)
structure Wd (B : Bx) (F H : Hp) (f : Ct) : Prop where
  nd : ∀ a, f a ≤ 1
  dF : ∀ a, 0 < f a → F a = none
  dR : ∀ a, 0 < f a → B.R a = none
  sF : Same F H
  sR : Same B.R H
  s0 : Same B.F0 F
  fr : ∀ a, F a ≠ none → B.F0 a ≠ none ∨ B.R a = none
def IoOk (B : Bx) (σ : L2.St) : Prop := ∀ p ∈ B.io, σ[p.1]? = some (some p.2)
def StT (K : PySem.W.Frag) (B : Bx) (F H : Hp) (σ : L2.St) (τ : Env) (vs : List V) (ds : List D) : Prop :=
  ∃ f1 f2, Sl K B.ca F H τ σ f1 ∧ RepOs K B.ca F H ds vs f2 ∧ Wd B F H (fun b => f1 b + f2 b) ∧ IoOk B σ
theorem Wd.less {B : Bx} {F H : Hp} {f g : Ct} (w : Wd B F H f) (h : ∀ b, g b ≤ f b) : Wd B F H g :=
  ⟨fun a => Nat.le_trans (h a) (w.nd a), fun a q => w.dF a (Nat.lt_of_lt_of_le q (h a)), fun a q => w.dR a (Nat.lt_of_lt_of_le q (h a)), w.sF, w.sR, w.s0, w.fr⟩
theorem same_upd {H : Hp} {p : Addr} {o : HO} (h : H p = none) : Same H (upd H p o) := fun b x e => by
  rw [upd_ne (ne_of_none e h)]
  exact e
theorem Wd.frozen {B : Bx} {F H : Hp} {f : Ct} {p : Addr} {o : HO} (w : Wd B F H f) (hp : H p = none) : Wd B (upd F p o) (upd H p o) (fun a => if a = p then 0 else f a) := by
  have hF : F p = none := by
    cases e : F p with
    | none => rfl
    | some x => rw [w.sF _ _ e] at hp; cases hp
  have hR : B.R p = none := by
    cases e : B.R p with
    | none => rfl
    | some x => rw [w.sR _ _ e] at hp; cases hp
  refine ⟨fun a => ?_, fun a q => ?_, fun a q => ?_, fun b x e => ?_, fun b x e => ?_, fun b x e => ?_, fun a q => ?_⟩
  · show (if a = p then 0 else f a) ≤ 1
    split
    · omega
    · exact w.nd a
  · have q : 0 < (if a = p then 0 else f a) := q
    split at q
    · omega
    · rw [upd_ne (by assumption)]; exact w.dF a q
  · have q : 0 < (if a = p then 0 else f a) := q
    split at q
    · omega
    · exact w.dR a q
  · by_cases h : b = p
    · subst h; rw [upd_same] at e ⊢; exact e
    · rw [upd_ne h] at e ⊢; exact w.sF b x e
  · rw [upd_ne (ne_of_none (w.sR b x e) hp)]; exact w.sR b x e
  · rw [upd_ne (ne_of_none (w.s0 b x e) hF)]; exact w.s0 b x e
  · by_cases h : a = p
    · subst h; exact .inr hR
    · rw [upd_ne h] at q; exact w.fr a q
theorem Wd.owned {B : Bx} {F H : Hp} {f : Ct} {p : Addr} {o : HO} (w : Wd B F H f) (hp : H p = none) (hf : f p = 0) : Wd B F (upd H p o) (fun a => (if a = p then 1 else 0) + f a) := by
  have hF : F p = none := by
    cases e : F p with
    | none => rfl
    | some x => rw [w.sF _ _ e] at hp; cases hp
  have hR : B.R p = none := by
    cases e : B.R p with
    | none => rfl
    | some x => rw [w.sR _ _ e] at hp; cases hp
  refine ⟨fun a => ?_, fun a q => ?_, fun a q => ?_, fun b x e => ?_, fun b x e => ?_, w.s0, w.fr⟩
  · show (if a = p then 1 else 0) + f a ≤ 1
    split
    · rename_i h; rw [h, hf]; omega
    · have := w.nd a; omega
  · have q : 0 < (if a = p then 1 else 0) + f a := q
    split at q
    · rename_i h; rw [h]; exact hF
    · exact w.dF a (by omega)
  · have q : 0 < (if a = p then 1 else 0) + f a := q
    split at q
    · rename_i h; rw [h]; exact hR
    · exact w.dR a (by omega)
  · rw [upd_ne (ne_of_none (w.sF b x e) hp)]; exact w.sF b x e
  · rw [upd_ne (ne_of_none (w.sR b x e) hp)]; exact w.sR b x e
def grow (F H : Hp) (f : Ct) : Hp := fun a => if 0 < f a then H a else F a
theorem same_grow {B : Bx} {F H : Hp} {f g : Ct} (w : Wd B F H f) (h : ∀ b, g b ≤ f b) : Same F (grow F H g) := fun b x e => by
  unfold grow
  split
  · rename_i q; rw [w.dF b (Nat.lt_of_lt_of_le q (h b))] at e; cases e
  · exact e
theorem Wd.give {B : Bx} {F H : Hp} {f g r : Ct} (w : Wd B F H f) (h : ∀ b, f b = g b + r b) : Wd B (grow F H g) H r := by
  refine ⟨fun a => by have := w.nd a; have := h a; omega, fun a q => ?_, fun a q => w.dR a (by rw [h]; omega), fun b x e => ?_, w.sR, fun b x e => (same_grow w fun b => by rw [h]; omega) b x (w.s0 b x e), fun a q => ?_⟩
  · unfold grow
    have := w.nd a; have := h a
    rw [if_neg (by omega)]
    exact w.dF a (by omega)
  · unfold grow at e
    split at e
    · exact e
    · exact w.sF b x e
  · unfold grow at q
    split at q
    · exact .inr (w.dR a (by rw [h]; omega))
    · exact w.fr a q
section
variable {K : PySem.W.Frag} {B : Bx} {F H : Hp} {σ : L2.St} {τ : Env} {vs us : List V} {ds es : List D} {v : V} {d : D}
theorem StT.push (s : StT K B F H σ τ vs ds) (h : Rep K B.ca F d v) : StT K B F H σ τ (v :: vs) (d :: ds) := by
  obtain ⟨f1, f2, a, b, w, io⟩ := s
  exact ⟨f1, f2, a, ⟨v, vs, _, f2, rfl, h.o, b, fun _ => by omega⟩, w, io⟩
theorem StT.pop (s : StT K B F H σ τ (v :: vs) (d :: ds)) : StT K B F H σ τ vs ds := by
  obtain ⟨f1, f2, a, ⟨_, _, g1, g2, e, _, b, q⟩, w, io⟩ := s
  cases e
  exact ⟨f1, g2, a, b, w.less fun b => by show f1 b + g2 b ≤ f1 b + f2 b; rw [q]; omega, io⟩
theorem StT.pops (s : StT K B F H σ τ (us ++ vs) (es ++ ds)) (hl : us.length = es.length) : StT K B F H σ τ vs ds := by
  obtain ⟨f1, f2, a, b, w, io⟩ := s
  obtain ⟨g1, g2, _, b, q⟩ := b.split' hl
  exact ⟨f1, g2, a, b, w.less fun b => by show f1 b + g2 b ≤ f1 b + f2 b; rw [q]; omega, io⟩
theorem StT.top (s : StT K B F H σ τ (v :: vs) (d :: ds)) : ∃ f, RepO K B.ca F H d v f := by
  obtain ⟨f1, f2, a, ⟨_, _, g1, g2, e, h, b, q⟩, w, io⟩ := s
  cases e
  exact ⟨_, h⟩
theorem StT.tops (s : StT K B F H σ τ (us ++ vs) (es ++ ds)) (hl : us.length = es.length) : ∃ f, RepOs K B.ca F H es us f := by
  obtain ⟨f1, f2, a, b, w, io⟩ := s
  obtain ⟨g1, g2, h, b, q⟩ := b.split' hl
  exact ⟨_, h⟩
theorem StT.topF (s : StT K B F H σ τ (v :: vs) (d :: ds)) (h : isFz d = true) : Rep K B.ca F d v := by
  obtain ⟨f, q⟩ := s.top
  exact ((repO_fz h).mp q).1
theorem StT.swap (s : StT K B F H σ τ (us ++ v :: vs) (es ++ d :: ds)) (hl : us.length = es.length) : StT K B F H σ τ (v :: us ++ vs) (d :: es ++ ds) := by
  obtain ⟨f1, f2, a, b, w, io⟩ := s
  obtain ⟨g1, g2, b1, ⟨_, _, g3, g4, e, b2, b3, q2⟩, q⟩ := b.split' hl
  cases e
  exact ⟨f1, f2, a, ⟨v, us ++ vs, g3, _, rfl, b2, b1.append b3, fun b => by rw [q, q2]; omega⟩, w, io⟩
theorem StT.same (s : StT K B F H σ τ vs ds) : Same F H := by
  obtain ⟨f1, f2, a, b, w, io⟩ := s
  exact w.sF
theorem StT.get {i : Nat} (s : StT K B F H σ τ vs ds) (e : τ[i]? = some (some d)) : ∃ v f, σ[i]? = some (some v) ∧ RepO K B.ca F H d v f := by
  obtain ⟨f1, f2, a, b, w, io⟩ := s
  exact a.get e
theorem StT.take {i : Nat} (s : StT K B F H σ τ vs ds) (e : τ[i]? = some (some d)) : ∃ v, σ[i]? = some (some v) ∧ StT K B F H σ (τ.set i none) (v :: vs) (d :: ds) := by
  obtain ⟨f1, f2, a, b, w, io⟩ := s
  obtain ⟨v, g1, g2, e1, h1, h2, q⟩ := a.take e
  refine ⟨v, e1, g2, fun b => g1 b + f2 b, h2, ⟨v, vs, g1, f2, rfl, h1, b, fun _ => rfl⟩, ?_, io⟩
  have e2 : (fun b => g2 b + (g1 b + f2 b)) = fun b => f1 b + f2 b := funext fun b => by rw [q]; omega
  rw [e2]; exact w
def ioFree (B : Bx) (i : Nat) : Prop := ∀ p ∈ B.io, p.1 ≠ i
theorem StT.put {i : Nat} (s : StT K B F H σ τ (v :: vs) (d :: ds)) (hi : i < τ.length) (hf : ioFree B i) : StT K B F H (σ.set i (some v)) (τ.set i (some d)) vs ds := by
  obtain ⟨f1, f2, a, ⟨_, _, g1, g2, e, h, b, q⟩, w, io⟩ := s
  cases e
  obtain ⟨f3, k1, k2⟩ := a.put hi h
  refine ⟨f3, g2, k1, b, w.less fun b => by show f3 b + g2 b ≤ f1 b + f2 b; have := k2 b; rw [q]; omega, fun p hp => ?_⟩
  rw [List.getElem?_set_ne (Ne.symm (hf p hp))]
  exact io p hp
theorem StT.putBack {i : Nat} (s : StT K B F H σ τ (v :: vs) (d :: ds)) (hi : i < τ.length) (hv : σ[i]? = some (some v)) : StT K B F H σ (τ.set i (some d)) vs ds := by
  obtain ⟨f1, f2, a, ⟨_, _, g1, g2, e, h, b, q⟩, w, io⟩ := s
  cases e
  obtain ⟨f3, k1, k2⟩ := a.put hi h
  have e1 : σ.set i (some v) = σ := by
    apply List.ext_getElem?
    intro j
    rw [List.getElem?_set]
    split
    · rename_i q; subst q; split
      · exact hv.symm
      · rename_i hl; rw [List.getElem?_eq_none (by omega)]
    · rfl
  rw [e1] at k1
  exact ⟨f3, g2, k1, b, w.less fun b => by show f3 b + g2 b ≤ f1 b + f2 b; have := k2 b; rw [q]; omega, io⟩
theorem StT.forget {i : Nat} (s : StT K B F H σ τ vs ds) : StT K B F H σ (τ.set i none) vs ds := by
  obtain ⟨f1, f2, a, b, w, io⟩ := s
  obtain ⟨g, k, q⟩ := a.drop (i := i)
  exact ⟨g, f2, k, b, w.less fun b => by show g b + f2 b ≤ f1 b + f2 b; have := q b; omega, io⟩
theorem StT.freeze (s : StT K B F H σ τ (us ++ vs) (es ++ ds)) (hl : us.length = es.length) : ∃ F', Same F F' ∧ RepL K B.ca F' (freezeL es) us ∧ StT K B F' H σ τ vs ds := by
  obtain ⟨f1, f2, a, b, w, io⟩ := s
  obtain ⟨g1, g2, b1, b2, q⟩ := b.split' hl
  have le : ∀ b, g1 b ≤ f1 b + f2 b := fun b => by rw [q]; omega
  have sm : Same F (grow F H g1) := same_grow w le
  refine ⟨grow F H g1, sm, RepOs.fz sm _ _ _ (fun a h => by unfold grow; rw [if_pos h]) b1, f1, g2, a.mono sm fun _ _ => rfl, RepOs.mono sm _ _ _ (fun _ _ => rfl) b2, ?_, io⟩
  exact w.give (g := g1) (r := fun b => f1 b + g2 b) fun b => by show f1 b + f2 b = g1 b + (f1 b + g2 b); rw [q]; omega
theorem StT.new (s : StT K B F H σ τ vs ds) {p : Addr} {o : HO} (hp : H p = none) : StT K B (upd F p o) (upd H p o) σ τ vs ds ∧ Same F (upd F p o) := by
  obtain ⟨f1, f2, a, b, w, io⟩ := s
  have hF : F p = none := by
    cases e : F p with
    | none => rfl
    | some x => rw [w.sF _ _ e] at hp; cases hp
  have sm : Same F (upd F p o) := Bn.same_upd hF
  have k1 : ∀ x, 0 < f1 x → upd H p o x = H x := fun x hx => upd_ne fun e => a.there x hx (e ▸ hp)
  have k2 : ∀ x, 0 < f2 x → upd H p o x = H x := fun x hx => upd_ne fun e => b.there _ _ _ x hx (e ▸ hp)
  refine ⟨⟨f1, f2, a.mono sm k1, RepOs.mono sm _ _ _ k2 b, (w.frozen hp).less fun x => ?_, io⟩, sm⟩
  show f1 x + f2 x ≤ if x = p then 0 else f1 x + f2 x
  split
  · rename_i e
    have h1 : ¬ 0 < f1 x := fun h => a.there x h (e ▸ hp)
    have h2 : ¬ 0 < f2 x := fun h => b.there _ _ _ x h (e ▸ hp)
    omega
  · omega
theorem StT.newTup (s : StT K B F H σ τ vs ds) {p : Addr} (hp : H p = none) (h : RepL K B.ca F es us) : StT K B (upd F p (.tup us)) (upd H p (.tup us)) σ τ (.ref p :: vs) (.tup es :: ds) := by
  obtain ⟨s', sm⟩ := s.new (o := .tup us) hp
  exact s'.push ⟨p, us, rfl, .inl (.inl upd_same), RepL.mono sm _ _ h⟩
theorem StT.newLst (s : StT K B F H σ τ (us ++ vs) (es ++ ds)) (hl : us.length = es.length) {p : Addr} (hp : H p = none) : StT K B F (upd H p (.lst us)) σ τ (.ref p :: vs) (.lst true es :: ds) := by
  obtain ⟨f1, f2, a, b, w, io⟩ := s
  obtain ⟨g1, g2, b1, b2, q⟩ := b.split' hl
  have k1 : ∀ x, 0 < f1 x → upd H p (.lst us) x = H x := fun x hx => upd_ne fun e => a.there x hx (e ▸ hp)
  have k2 : ∀ x, 0 < g1 x → upd H p (.lst us) x = H x := fun x hx => upd_ne fun e => b1.there _ _ _ x hx (e ▸ hp)
  have k3 : ∀ x, 0 < g2 x → upd H p (.lst us) x = H x := fun x hx => upd_ne fun e => b2.there _ _ _ x hx (e ▸ hp)
  have z : f1 p + f2 p = 0 := by
    have h1 : ¬ 0 < f1 p := fun h => a.there p h hp
    have h2 : ¬ 0 < f2 p := fun h => b.there _ _ _ p h hp
    omega
  refine ⟨f1, fun b => ((if b = p then 1 else 0) + g1 b) + g2 b, a.mono (Same.refl _) k1, ⟨.ref p, vs, fun b => (if b = p then 1 else 0) + g1 b, g2, rfl, ⟨p, us, g1, rfl, upd_same, RepOs.mono (Same.refl _) _ _ _ k2 b1, fun _ => rfl⟩, RepOs.mono (Same.refl _) _ _ _ k3 b2, fun _ => rfl⟩, ?_, io⟩
  have e : (fun b => f1 b + (((if b = p then 1 else 0) + g1 b) + g2 b)) = fun b => (if b = p then 1 else 0) + (f1 b + f2 b) := funext fun b => by rw [q]; omega
  rw [e]
  exact w.owned hp z
theorem StT.change {a : Addr} {xs ys : List V} {es' : List D} (s : StT K B F H σ τ (.ref a :: (us ++ vs)) (.lst true es :: (ds ++ es'))) (hl : us.length = ds.length) (hx : H a = some (.lst xs)) {es2 : List D}
    (k : ∀ g1 g2, RepOs K B.ca F H es xs g1 → RepOs K B.ca F H ds us g2 → ∃ g, RepOs K B.ca F H es2 ys g ∧ ∀ b, g b ≤ g1 b + g2 b) :
    StT K B F (upd H a (.lst ys)) σ τ (.ref a :: vs) (.lst true es2 :: es') := by
  obtain ⟨f1, f2, A, ⟨_, _, g1, g2, e, h, b, q⟩, w, io⟩ := s
  cases e
  obtain ⟨a', xs', g3, e', hx', h3, q3⟩ := h
  cases e'
  rw [hx] at hx'; cases hx'
  obtain ⟨g4, g5, b1, b2, q4⟩ := b.split' hl
  obtain ⟨g, hg, hle⟩ := k g3 g4 h3 b1
  have one := w.nd a
  have tot : ∀ b, f1 b + f2 b = f1 b + ((if b = a then 1 else 0) + g3 b + (g4 b + g5 b)) := fun b => by rw [q, q3, q4]
  have za : f1 a = 0 ∧ g3 a = 0 ∧ g4 a = 0 ∧ g5 a = 0 := by
    have := tot a
    rw [if_pos rfl] at this
    omega
  have off : ∀ {φ : Ct}, φ a = 0 → ∀ x, 0 < φ x → upd H a (.lst ys) x = H x := fun {φ} hz x hx => upd_ne fun e => by rw [e, hz] at hx; omega
  have zg : g a = 0 := by have := hle a; omega
  refine ⟨f1, fun b => ((if b = a then 1 else 0) + g b) + g5 b, A.mono (Same.refl _) (off za.1), ⟨.ref a, vs, fun b => (if b = a then 1 else 0) + g b, g5, rfl, ⟨a, ys, g, rfl, upd_same, RepOs.mono (Same.refl _) _ _ _ (off zg) hg, fun _ => rfl⟩,
    RepOs.mono (Same.refl _) _ _ _ (off za.2.2.2) b2, fun _ => rfl⟩, ?_, io⟩
  have w2 : Wd B F H (fun b => f1 b + (((if b = a then 1 else 0) + g b) + g5 b)) := w.less fun b => by
    show f1 b + (((if b = a then 1 else 0) + g b) + g5 b) ≤ f1 b + f2 b
    have := tot b; have := hle b; omega
  have fa : F a = none := w.dF a (by have := tot a; rw [if_pos rfl] at this; show 0 < f1 a + f2 a; omega)
  have ra : B.R a = none := w.dR a (by have := tot a; rw [if_pos rfl] at this; show 0 < f1 a + f2 a; omega)
  exact ⟨w2.nd, w2.dF, w2.dR, fun b x e => by rw [upd_ne (ne_of_none e fa)]; exact w.sF b x e, fun b x e => by rw [upd_ne (ne_of_none e ra)]; exact w.sR b x e, w.s0, w.fr⟩
theorem StT.called {F' H' : Hp} {g : Ct} (s : StT K B F H σ τ vs ds) (h1 : Same F F') (h2 : Same F' H') (h3 : Same H H') (hv : RepO K B.ca F' H' d v g) (h4 : ∀ a, g a ≤ 1) (h5 : ∀ a, 0 < g a → F' a = none ∧ H a = none)
    (h6 : ∀ a, F' a ≠ none → F a ≠ none ∨ H a = none) : StT K B F' H' σ τ (v :: vs) (d :: ds) := by
  obtain ⟨f1, f2, a, b, w, io⟩ := s
  have k : ∀ x, H x ≠ none → H' x = H x := fun x hx => by
    cases e : H x with
    | none => exact absurd e hx
    | some o => exact h3 _ _ e
  have t1 : ∀ x, 0 < f1 x → H x ≠ none := a.there
  have t2 : ∀ x, 0 < f2 x → H x ≠ none := b.there _ _ _
  refine ⟨f1, fun b => g b + f2 b, a.mono h1 fun x hx => k x (t1 x hx), ⟨v, vs, g, f2, rfl, hv, RepOs.mono h1 _ _ _ (fun x hx => k x (t2 x hx)) b, fun _ => rfl⟩, ?_, io⟩
  have split : ∀ x, 0 < f1 x + (g x + f2 x) → (0 < g x ∧ f1 x = 0 ∧ f2 x = 0) ∨ (g x = 0 ∧ 0 < f1 x + f2 x) := fun x hx => by
    by_cases q : 0 < g x
    · have hn := (h5 x q).2
      have : ¬ 0 < f1 x := fun h => t1 x h hn
      have : ¬ 0 < f2 x := fun h => t2 x h hn
      exact .inl ⟨q, by omega, by omega⟩
    · exact .inr ⟨by omega, by omega⟩
  have old : ∀ x, 0 < f1 x + f2 x → H x ≠ none := fun x hx => by
    by_cases q : 0 < f1 x
    · exact t1 x q
    · exact t2 x (by omega)
  refine ⟨fun x => ?_, fun x hx => ?_, fun x hx => ?_, h2, w.sR.trans h3, w.s0.trans h1, fun x hx => ?_⟩
  · show f1 x + (g x + f2 x) ≤ 1
    by_cases q : 0 < f1 x + (g x + f2 x)
    · rcases split x q with ⟨_, e1, e2⟩ | ⟨e1, _⟩
      · have := h4 x; omega
      · have := w.nd x; omega
    · omega
  · rcases split x hx with ⟨e0, _⟩ | ⟨_, e0⟩
    · exact (h5 x e0).1
    · have hF := w.dF x e0
      cases e : F' x with
      | none => rfl
      | some o =>
        rcases h6 x (by rw [e]; exact fun z => by cases z) with z | z
        · exact absurd hF z
        · exact absurd z (old x e0)
  · rcases split x hx with ⟨e0, _⟩ | ⟨_, e0⟩
    · cases e : B.R x with
      | none => rfl
      | some o => have z := (h5 x e0).2; rw [w.sR _ _ e] at z; cases z
    · exact w.dR x e0
  · rcases h6 x hx with z | z
    · exact w.fr x z
    · refine .inr ?_
      cases e : B.R x with
      | none => rfl
      | some o => rw [w.sR _ _ e] at z; cases z
theorem StT.grown {H' : Hp} (s : StT K B F H σ τ vs ds) (h : Same H H') : StT K B F H' σ τ vs ds := by
  obtain ⟨f1, f2, a, b, w, io⟩ := s
  have k : ∀ x, H x ≠ none → H' x = H x := fun x hx => by
    cases e : H x with
    | none => exact absurd e hx
    | some o => exact h _ _ e
  exact ⟨f1, f2, a.mono (Same.refl _) fun x hx => k x (a.there x hx), RepOs.mono (Same.refl _) _ _ _ (fun x hx => k x (b.there _ _ _ x hx)) b, ⟨w.nd, w.dF, w.dR, w.sF.trans h, w.sR.trans h, w.s0, w.fr⟩, io⟩
end
end Bn
namespace Bn
open PySem PySem.Spec PyProof.Rows L2
inductive R (α : Type) where
  | ok (a : α) (τ : Env) | ex (c : Str) (τ : Env) | bad
inductive SR where
  | nx (τ : Env) | rt (d : D) (τ : Env) | bk (τ : Env) | ct (τ : Env) | ex (c : Str) (τ : Env) | bad
inductive CR where
  | ok (d : D) | ex (c : Str) | bad
abbrev ME := Env → R D
abbrev MZ := Env → Option D
abbrev MT := Env → R Bool
abbrev MA := Env → R (List D)
abbrev MS := Env → SR
def R.bind {α β : Type} : R α → (α → Env → R β) → R β
  | .ok a τ, k => k a τ
  | .ex c τ, _ => .ex c τ
  | .bad, _ => .bad
def post {α : Type} (y : α → Env → Prop) (x : Str → Env → Prop) : R α → Prop
  | .ok a τ => y a τ
  | .ex c τ => x c τ
  | .bad => False
theorem post_bind {α β : Type} {y : β → Env → Prop} {x : Str → Env → Prop} {r : R α} {k : α → Env → R β} (h : post y x (r.bind k)) : post (fun a τ => post y x (k a τ)) x r := by
  cases r <;> exact h
theorem post_imp {α : Type} {y y' : α → Env → Prop} {x x' : Str → Env → Prop} {r : R α} (h : post y x r) (hy : ∀ a τ, y a τ → y' a τ) (hx : ∀ c τ, x c τ → x' c τ) : post y' x' r := by
  cases r with
  | ok a τ => exact hy _ _ h
  | ex c τ => exact hx _ _ h
  | bad => exact h
section
variable {X : Cx}
theorem PE.imp {e : Expr} {t t' : TE} (h : PE X e t) (k : ∀ σ H Q, t' σ H Q → t σ H Q) : PE X e t' := ⟨fun p s σ H Q I q => h.run p s σ H Q I (k _ _ _ q)⟩
theorem PT.imp {e : Expr} {t t' : TT} (h : PT X e t) (k : ∀ σ H Q, t' σ H Q → t σ H Q) : PT X e t' := ⟨fun p s σ H Q I q => h.run p s σ H Q I (k _ _ _ q)⟩
theorem PW.imp {e : Expr} {t t' : TT} (h : PW X e t) (k : ∀ σ H Q, t' σ H Q → t σ H Q) : PW X e t' := ⟨fun w p s σ H Q I q => h.run w p s σ H Q I (k _ _ _ q)⟩
theorem PA.imp {e : List Expr} {t t' : TA} (h : PA X e t) (k : ∀ σ H Q, t' σ H Q → t σ H Q) : PA X e t' := ⟨fun z p s σ H Q I q => h.run z p s σ H Q I (k _ _ _ q)⟩
theorem PS.imp {e : Stmt} {t t' : TS} (h : PS X e t) (k : ∀ D σ H, t' D σ H → t D σ H) : PS X e t' := ⟨fun p s σ H D I q => h.run p s σ H D I (k _ _ _ q)⟩
theorem PSs.imp {e : List Stmt} {t t' : TS} (h : PSs X e t) (k : ∀ D σ H, t' D σ H → t D σ H) : PSs X e t' := ⟨fun p s σ H D I q => h.run p s σ H D I (k _ _ _ q)⟩
theorem PG.imp {e : Expr} {t t' : TG} (h : PG X e t) (k : ∀ v σ H Q, t' v σ H Q → t v σ H Q) : PG X e t' := ⟨fun p s σ H v u Q I r q => h.run p s σ H v u Q I r (k _ _ _ _ q)⟩
theorem PGs.imp {e : List Expr} {t t' : TGs} (h : PGs X e t) (k : ∀ v σ H Q, t' v σ H Q → t v σ H Q) : PGs X e t' := ⟨fun p s σ H v u Q I r q => h.run p s σ H v u Q I r (k _ _ _ _ q)⟩
end
section
variable (K : PySem.W.Frag) (B : Bx) (W : WX)
def exW (σ : L2.St) (vs : List V) (ds : List D) : Str → Env → Prop := fun c τ' => ∀ F' H', StT K B F' H' σ τ' vs ds → W (.ref (B.ca c)) none σ H'
def rdE (m : ME) : TE := fun σ H Q => ∃ F τ vs ds, StT K B F H σ τ vs ds ∧ post (fun d τ' => ∀ v F' H', StT K B F' H' σ τ' (v :: vs) (d :: ds) → Q v H') (exW K B W σ vs ds) (m τ)
def rdA (m : MA) : TA := fun σ H Q => ∃ F τ vs ds, StT K B F H σ τ vs ds ∧ post (fun es τ' => ∀ us F' H', us.length = es.length → StT K B F' H' σ τ' (us ++ vs) (es ++ ds) → Q us H') (exW K B W σ vs ds) (m τ)
def rdT (m : MT) : TT := fun σ H Q => ∃ F τ vs ds, StT K B F H σ τ vs ds ∧ post (fun b τ' => ∀ F' H', StT K B F' H' σ τ' vs ds → Q b H') (exW K B W σ vs ds) (m τ)
def rdZ (m : MZ) : TE := fun σ H Q => ∃ F τ vs ds, StT K B F H σ τ vs ds ∧ ∃ d, m τ = some d ∧ ∀ v f, RepO K B.ca F H d v f → Q v H
def postS (vs : List V) (ds : List D) (D : Ends) : SR → Prop
  | .nx τ => ∀ σ F H, StT K B F H σ τ vs ds → D.nx σ H
  | .rt d τ => ∀ v σ F H, StT K B F H σ τ (v :: vs) (d :: ds) → D.rt v H
  | .bk τ => ∀ σ F H, StT K B F H σ τ vs ds → D.bk σ H
  | .ct τ => ∀ σ F H, StT K B F H σ τ vs ds → D.ct σ H
  | .ex c τ => ∀ σ F H, StT K B F H σ τ vs ds → W (.ref (B.ca c)) none σ H
  | .bad => False
def rdS (m : MS) : TS := fun D σ H => ∃ F τ vs ds, StT K B F H σ τ vs ds ∧ postS K B W vs ds D (m τ)
def rdG (sl : List Nat) (g : D → Env → Option Env) : TG := fun v σ H Q => ∃ F τ vs ds d, StT K B F H σ τ (v :: vs) (d :: ds) ∧ ∃ τ', g d τ = some τ' ∧
  ∀ σ' F' H', StT K B F' H' σ' τ' vs ds → σ'.length = σ.length → (∀ j, j ∉ sl → σ'[j]? = σ[j]?) → Q σ' H'
end
def zVar (i : Nat) : MZ := fun τ => τ.getD i none
def zC (d : D) : MZ := fun _ => some d
theorem getD_some {τ : Env} {i : Nat} {d : D} (h : τ.getD i none = some d) : τ[i]? = some (some d) := by
  rw [List.getD_eq_getElem?_getD] at h
  cases e : τ[i]? with
  | none => rw [e] at h; cases h
  | some x => rw [e] at h; exact congrArg some h
section
variable {X : Cx} {B : Bx} {W : WX}
theorem z_var {i : Nat} {e : Expr} (h : PE X e (tVar i)) : PE X e (rdZ X.K B (zVar i)) := PE.imp h fun σ H Q ⟨F, τ, vs, ds, s, d, e, k⟩ => by
  obtain ⟨v, f, h1, h2⟩ := s.get (getD_some e)
  exact ⟨v, h1, k v f h2⟩
theorem z_c {e : Expr} {d : D} {v : V} (h : PE X e (tC v)) (hd : ∀ F, Rep X.K B.ca F d v) : PE X e (rdZ X.K B (zC d)) := PE.imp h fun σ H Q ⟨F, τ, vs, ds, s, d', e, k⟩ => by
  cases (show some d = some d' from e)
  exact k v _ (hd F).o
theorem z_int {i j pos} : PE X (.Constant (.int i) j pos) (rdZ X.K B (zC (.int i))) := z_c pe_int fun _ => rfl
theorem z_bl {b j pos} : PE X (.Constant (.bool b) j pos) (rdZ X.K B (zC (.bl b))) := z_c pe_bl fun _ => rfl
theorem z_str {x j pos} : PE X (.Constant (.str x) j pos) (rdZ X.K B (zC (.str x))) := z_c pe_str fun _ => rfl
theorem z_ty {x : Str} {n : String} {pos : Pos} (hg : Gl X x) (hm : X.mg x = none) (hv : bootBuiltins x = some (.type n)) (hn : x ≠ "__name__" := by decide) (hd : (x == ("__debug__" : Str)) = false := by decide) : PE X (.Name x pos) (rdZ X.K B (zC (.ty n))) :=
  z_c (pe_bltn (v := .ty n) hg hm hv rfl hn hd) fun _ => rfl
def eZ (m : MZ) : ME := fun τ => match m τ with
  | some d => if isFz d = true then .ok d τ else .bad
  | none => .bad
theorem e_z {e : Expr} {m : MZ} (h : PE X e (rdZ X.K B m)) : PE X e (rdE X.K B W (eZ m)) := PE.imp h fun σ H Q ⟨F, τ, vs, ds, s, k⟩ => by
  unfold eZ at k
  cases e : m τ with
  | none => rw [e] at k; exact k.elim
  | some d =>
    rw [e] at k
    by_cases z : isFz d = true
    · simp only [z, if_true] at k
      exact ⟨F, τ, vs, ds, s, d, e, fun v f r => k v F H (s.push ((repO_fz z).mp r).1)⟩
    · simp only [z] at k
      exact k.elim
def eVar (i : Nat) : ME := fun τ => match τ.getD i none with
  | some d => if isFz d = true then .ok d τ else .ok (freeze d) (τ.set i (some (freeze d)))
  | none => .bad
theorem e_var {i : Nat} {e : Expr} (h : PE X e (tVar i)) : PE X e (rdE X.K B W (eVar i)) := PE.imp h fun σ H Q ⟨F, τ, vs, ds, s, k⟩ => by
  unfold eVar at k
  cases e : τ.getD i none with
  | none => rw [e] at k; exact k.elim
  | some d =>
    rw [e] at k
    have e' := getD_some e
    by_cases z : isFz d = true
    · simp only [z, if_true] at k
      obtain ⟨v, f, h1, h2⟩ := s.get e'
      exact ⟨v, h1, k v F H (s.push ((repO_fz z).mp h2).1)⟩
    · simp only [z] at k
      obtain ⟨v, h1, s1⟩ := s.take e'
      obtain ⟨F', sm, ⟨_, _, e2, r, _⟩, s2⟩ := StT.freeze (us := [v]) (es := [d]) s1 rfl
      cases e2
      have s3 := StT.putBack (s2.push r) (i := i) (by rw [List.length_set]; exact (List.getElem?_eq_some_iff.mp e').1) h1
      rw [List.set_set] at s3
      exact ⟨v, h1, k v F' H (s3.push r)⟩
def eMv (i : Nat) : ME := fun τ => match τ.getD i none with
  | some d => .ok d (τ.set i none)
  | none => .bad
theorem e_mv {i : Nat} {e : Expr} (h : PE X e (tVar i)) : PE X e (rdE X.K B W (eMv i)) := PE.imp h fun σ H Q ⟨F, τ, vs, ds, s, k⟩ => by
  unfold eMv at k
  cases e : τ.getD i none with
  | none => rw [e] at k; exact k.elim
  | some d =>
    rw [e] at k
    obtain ⟨v, h1, s1⟩ := s.take (getD_some e)
    exact ⟨v, h1, k v F H s1⟩
def OpS (K : PySem.W.Frag) (r : R2) (g : D → D → Option D) : Prop := ∀ (ca : Str → Addr) (F H : Hp) (x y : V) (a b d : D) (f1 f2 : Ct) (Q : VK), Same F H → RepO K ca F H a x f1 → RepO K ca F H b y f2 → g a b = some d → (∀ v f, RepO K ca F H d v f → Q v H) → r x y H Q
def UnS (K : PySem.W.Frag) (r : V → Hp → VK → Prop) (g : D → Option D) : Prop := ∀ (ca : Str → Addr) (F H : Hp) (x : V) (a d : D) (f1 : Ct) (Q : VK), Same F H → RepO K ca F H a x f1 → g a = some d → (∀ v f, RepO K ca F H d v f → Q v H) → r x H Q
def CallS (K : PySem.W.Frag) (r : List V → Hp → VK → Prop) (g : List D → Option D) : Prop := ∀ (ca : Str → Addr) (F H : Hp) (xs : List V) (as : List D) (d : D) (f1 : Ct) (Q : VK), Same F H → RepOs K ca F H as xs f1 → g as = some d → (∀ v f, RepO K ca F H d v f → Q v H) → r xs H Q
def z2 (g : D → D → Option D) (m n : MZ) : MZ := fun τ => (m τ).bind fun a => (n τ).bind fun b => g a b
def z1 (g : D → Option D) (m : MZ) : MZ := fun τ => (m τ).bind g
def ofO (o : Option D) (τ : Env) : R D := match o with
  | some d => if isFz d = true then .ok d τ else .bad
  | none => .bad
def e2 (g : D → D → Option D) (m n : ME) : ME := fun τ => (m τ).bind fun a τ1 => (n τ1).bind fun b τ2 => ofO (g a b) τ2
def e1 (g : D → Option D) (m : ME) : ME := fun τ => (m τ).bind fun a τ1 => ofO (g a) τ1
def eC (g : List D → Option D) (m : MA) : ME := fun τ => (m τ).bind fun a τ1 => ofO (g a) τ1
theorem post_ofO {y : D → Env → Prop} {x : Str → Env → Prop} {o : Option D} {τ : Env} (h : post y x (ofO o τ)) : ∃ d, o = some d ∧ isFz d = true ∧ y d τ := by
  unfold ofO at h
  cases o with
  | none => exact h.elim
  | some d =>
    by_cases z : isFz d = true
    · simp only [z, if_true] at h; exact ⟨d, rfl, z, h⟩
    · simp only [z] at h; exact h.elim
theorem bind_some {α β : Type} {o : Option α} {k : α → Option β} {d : β} (h : o.bind k = some d) : ∃ a, o = some a ∧ k a = some d := by
  cases o with
  | none => cases h
  | some a => exact ⟨a, rfl, h⟩
theorem imp2Z {r : R2} {g : D → D → Option D} {m n : MZ} (hs : OpS X.K r g) (σ : L2.St) (H : Hp) (Q : VK) (h : rdZ X.K B (z2 g m n) σ H Q) : tOp r (rdZ X.K B m) (rdZ X.K B n) σ H Q := by
  obtain ⟨F, τ, vs, ds, s, d, e, k⟩ := h
  obtain ⟨a, ea, e⟩ := bind_some e
  obtain ⟨b, eb, e⟩ := bind_some e
  exact ⟨F, τ, vs, ds, s, a, ea, fun x f1 hx => ⟨F, τ, vs, ds, s, b, eb, fun y f2 hy => hs _ _ _ _ _ _ _ _ _ _ _ s.same hx hy e k⟩⟩
theorem imp2E {r : R2} {g : D → D → Option D} {m n : ME} (hs : OpS X.K r g) (σ : L2.St) (H : Hp) (Q : VK) (h : rdE X.K B W (e2 g m n) σ H Q) : tOp r (rdE X.K B W m) (rdE X.K B W n) σ H Q := by
  obtain ⟨F, τ, vs, ds, s, p⟩ := h
  refine ⟨F, τ, vs, ds, s, post_imp (post_bind p) (fun a τ1 q x F1 H1 s1 => ⟨F1, τ1, _, _, s1, post_imp (post_bind q) (fun b τ2 q y F2 H2 s2 => ?_) fun c τ2 q F2 H2 s2 => q F2 H2 s2.pop⟩) fun _ _ q => q⟩
  obtain ⟨d, e, z, q⟩ := post_ofO q
  obtain ⟨f2, hy⟩ := s2.top
  obtain ⟨f1, hx⟩ := s2.pop.top
  exact hs _ _ _ _ _ _ _ _ _ _ _ s2.same hx hy e fun v f hv => q v F2 H2 (s2.pop.pop.push ((repO_fz z).mp hv).1)
theorem imp1Z {r : V → Hp → VK → Prop} {g : D → Option D} {m : MZ} (hs : UnS X.K r g) (σ : L2.St) (H : Hp) (Q : VK) (h : rdZ X.K B (z1 g m) σ H Q) : tUn r (rdZ X.K B m) σ H Q := by
  obtain ⟨F, τ, vs, ds, s, d, e, k⟩ := h
  obtain ⟨a, ea, e⟩ := bind_some e
  exact ⟨F, τ, vs, ds, s, a, ea, fun x f1 hx => hs _ _ _ _ _ _ _ _ s.same hx e k⟩
theorem imp1E {r : V → Hp → VK → Prop} {g : D → Option D} {m : ME} (hs : UnS X.K r g) (σ : L2.St) (H : Hp) (Q : VK) (h : rdE X.K B W (e1 g m) σ H Q) : tUn r (rdE X.K B W m) σ H Q := by
  obtain ⟨F, τ, vs, ds, s, p⟩ := h
  refine ⟨F, τ, vs, ds, s, post_imp (post_bind p) (fun a τ1 q x F1 H1 s1 => ?_) fun _ _ q => q⟩
  obtain ⟨d, e, z, q⟩ := post_ofO q
  obtain ⟨f1, hx⟩ := s1.top
  exact hs _ _ _ _ _ _ _ _ s1.same hx e fun v f hv => q v F1 H1 (s1.pop.push ((repO_fz z).mp hv).1)
theorem z_op {op : Operator} {a b : Expr} {pos : Pos} {r : R2} {g : D → D → Option D} {m n : MZ} (ho : OpR X (binaryOp op) r) (hs : OpS X.K r g) (ha : PE X a (rdZ X.K B m)) (hb : PE X b (rdZ X.K B n)) : PE X (.BinOp a op b pos) (rdZ X.K B (z2 g m n)) := PE.imp (pe_op ho ha hb) (imp2Z hs)
theorem e_op {op : Operator} {a b : Expr} {pos : Pos} {r : R2} {g : D → D → Option D} {m n : ME} (ho : OpR X (binaryOp op) r) (hs : OpS X.K r g) (ha : PE X a (rdE X.K B W m)) (hb : PE X b (rdE X.K B W n)) : PE X (.BinOp a op b pos) (rdE X.K B W (e2 g m n)) := PE.imp (pe_op ho ha hb) (imp2E hs)
theorem z_un {op : UnaryOp} {a : Expr} {pos : Pos} {r : V → Hp → VK → Prop} {g : D → Option D} {m : MZ} (ho : UnR X (unaryOp op) r) (hs : UnS X.K r g) (ha : PE X a (rdZ X.K B m)) : PE X (.UnaryOp op a pos) (rdZ X.K B (z1 g m)) := PE.imp (pe_un ho ha) (imp1Z hs)
theorem e_un {op : UnaryOp} {a : Expr} {pos : Pos} {r : V → Hp → VK → Prop} {g : D → Option D} {m : ME} (ho : UnR X (unaryOp op) r) (hs : UnS X.K r g) (ha : PE X a (rdE X.K B W m)) : PE X (.UnaryOp op a pos) (rdE X.K B W (e1 g m)) := PE.imp (pe_un ho ha) (imp1E hs)
theorem z_ix {a b : Expr} {pos : Pos} {r : R2} {g : D → D → Option D} {m n : MZ} (ho : IxR X r) (hs : OpS X.K r g) (ha : PE X a (rdZ X.K B m)) (hb : PE X b (rdZ X.K B n)) (hp : PlainIx b := by exact fun _ _ => rfl) : PE X (.Subscript a b pos) (rdZ X.K B (z2 g m n)) := PE.imp (pe_ix ho ha hb hp) (imp2Z hs)
theorem e_ix {a b : Expr} {pos : Pos} {r : R2} {g : D → D → Option D} {m n : ME} (ho : IxR X r) (hs : OpS X.K r g) (ha : PE X a (rdE X.K B W m)) (hb : PE X b (rdE X.K B W n)) (hp : PlainIx b := by exact fun _ _ => rfl) : PE X (.Subscript a b pos) (rdE X.K B W (e2 g m n)) := PE.imp (pe_ix ho ha hb hp) (imp2E hs)
theorem z_cmp {op : CmpOp} {a b : Expr} {pos : Pos} {r : R2} {g : D → D → Option D} {m n : MZ} (ho : OpR X (compareOp op) r) (hs : OpS X.K r g) (ha : PE X a (rdZ X.K B m)) (hb : PE X b (rdZ X.K B n)) (hm : behindInMarks op b = false := by first | exact nomark _ | rfl) : PE X (.Compare a [op] [b] pos) (rdZ X.K B (z2 g m n)) := PE.imp (pe_cmpR ho ha hb hm) (imp2Z hs)
def tE (m : ME) : MT := fun τ => (m τ).bind fun d τ1 => match d with
  | .bl b => .ok b τ1
  | _ => .bad
def tZ (m : MZ) : MT := fun τ => match m τ with
  | some (.bl b) => .ok b τ
  | _ => .bad
theorem impTE {m : ME} (σ : L2.St) (H : Hp) (Q : Bool → Hp → Prop) (h : rdT X.K B W (tE m) σ H Q) : rdE X.K B W m σ H fun x H' => ∃ k, x = .bl k ∧ Q k H' := by
  obtain ⟨F, τ, vs, ds, s, p⟩ := h
  refine ⟨F, τ, vs, ds, s, post_imp (post_bind p) (fun d τ1 q x F1 H1 s1 => ?_) fun _ _ q => q⟩
  cases d with
  | bl b => exact ⟨b, s1.topF rfl, q F1 H1 s1.pop⟩
  | _ => exact False.elim q
theorem impTZ {m : MZ} (σ : L2.St) (H : Hp) (Q : Bool → Hp → Prop) (h : rdT X.K B W (tZ m) σ H Q) : rdZ X.K B m σ H fun x H' => ∃ k, x = .bl k ∧ Q k H' := by
  obtain ⟨F, τ, vs, ds, s, p⟩ := h
  unfold tZ at p
  cases e : m τ with
  | none => rw [e] at p; exact False.elim p
  | some d =>
    rw [e] at p
    cases d with
    | bl b => exact ⟨F, τ, vs, ds, s, _, e, fun v f r => ⟨b, r.1, p F H s⟩⟩
    | _ => exact False.elim p
theorem t_valZ {e : Expr} {m : MZ} (h : PE X e (rdZ X.K B m)) (he : ∀ whole, isTrue e X.env whole = (do let v ← whole; standAt e.pos; holding [v] (truthy v)) := by intro _; rfl) : PT X e (rdT X.K B W (tZ m)) := PT.imp (pt_val h he) impTZ
theorem t_valE {e : Expr} {m : ME} (h : PE X e (rdE X.K B W m)) (he : ∀ whole, isTrue e X.env whole = (do let v ← whole; standAt e.pos; holding [v] (truthy v)) := by intro _; rfl) : PT X e (rdT X.K B W (tE m)) := PT.imp (pt_val h he) impTE
theorem t_cmpZ {op : CmpOp} {a b : Expr} {pos : Pos} {r : R2} {g : D → D → Option D} {m n : MZ} (ho : OpR X (compareOp op) r) (hs : OpS X.K r g) (ha : PE X a (rdZ X.K B m)) (hb : PE X b (rdZ X.K B n)) (hm : behindInMarks op b = false := by first | exact nomark _ | rfl) : PT X (.Compare a [op] [b] pos) (rdT X.K B W (tZ (z2 g m n))) :=
  PT.imp (pt_cmpR ho ha hb hm) fun σ H Q h => imp2Z hs σ H _ (impTZ σ H Q h)
theorem t_cmpE {op : CmpOp} {a b : Expr} {pos : Pos} {r : R2} {g : D → D → Option D} {m n : ME} (ho : OpR X (compareOp op) r) (hs : OpS X.K r g) (ha : PE X a (rdE X.K B W m)) (hb : PE X b (rdE X.K B W n)) (hm : behindInMarks op b = false := by first | exact nomark _ | rfl) : PT X (.Compare a [op] [b] pos) (rdT X.K B W (tE (e2 g m n))) :=
  PT.imp (pt_cmpR ho ha hb hm) fun σ H Q h => imp2E hs σ H _ (impTE σ H Q h)
def tAnd (a b : MT) : MT := fun τ => (a τ).bind fun x τ1 => if x = true then b τ1 else .ok false τ1
def tOr (a b : MT) : MT := fun τ => (a τ).bind fun x τ1 => if x = true then .ok true τ1 else b τ1
def tNot (a : MT) : MT := fun τ => (a τ).bind fun x τ1 => .ok (!x) τ1
theorem t_and1 {a : Expr} {pos : Pos} {m : MT} (ha : PT X a (rdT X.K B W m)) : PW X (.BoolOp .And [a] pos) (rdT X.K B W m) := pw_and1 ha
theorem t_or1 {a : Expr} {pos : Pos} {m : MT} (ha : PT X a (rdT X.K B W m)) : PW X (.BoolOp .Or [a] pos) (rdT X.K B W m) := pw_or1 ha
theorem t_and {a b : Expr} {r : List Expr} {pos : Pos} {m n : MT} (ha : PT X a (rdT X.K B W m)) (hb : PW X (.BoolOp .And (b :: r) pos) (rdT X.K B W n)) : PW X (.BoolOp .And (a :: b :: r) pos) (rdT X.K B W (tAnd m n)) := PW.imp (pw_and ha hb) fun σ H Q h => by
  obtain ⟨F, τ, vs, ds, s, p⟩ := h
  refine ⟨F, τ, vs, ds, s, post_imp (post_bind p) (fun b τ1 q F1 H1 s1 => ?_) fun _ _ q => q⟩
  cases b with
  | true => exact ⟨F1, τ1, vs, ds, s1, q⟩
  | false => exact q F1 H1 s1
theorem t_or {a b : Expr} {r : List Expr} {pos : Pos} {m n : MT} (ha : PT X a (rdT X.K B W m)) (hb : PW X (.BoolOp .Or (b :: r) pos) (rdT X.K B W n)) : PW X (.BoolOp .Or (a :: b :: r) pos) (rdT X.K B W (tOr m n)) := PW.imp (pw_or ha hb) fun σ H Q h => by
  obtain ⟨F, τ, vs, ds, s, p⟩ := h
  refine ⟨F, τ, vs, ds, s, post_imp (post_bind p) (fun b τ1 q F1 H1 s1 => ?_) fun _ _ q => q⟩
  cases b with
  | false => exact ⟨F1, τ1, vs, ds, s1, q⟩
  | true => exact q F1 H1 s1
theorem t_not {a : Expr} {pos : Pos} {m : MT} (ha : PT X a (rdT X.K B W m)) : PT X (.UnaryOp .Not a pos) (rdT X.K B W (tNot m)) := PT.imp (pt_not ha) fun σ H Q h => by
  obtain ⟨F, τ, vs, ds, s, p⟩ := h
  exact ⟨F, τ, vs, ds, s, post_imp (post_bind p) (fun b τ1 q F1 H1 s1 => q F1 H1 s1) fun _ _ q => q⟩
def eAnd (a b : ME) : ME := fun τ => (a τ).bind fun x τ1 => match x with
  | .bl true => b τ1
  | .bl false => .ok (.bl false) τ1
  | _ => .bad
def eNot (a : ME) : ME := fun τ => (a τ).bind fun x τ1 => match x with
  | .bl b => .ok (.bl (!b)) τ1
  | _ => .bad
theorem e_one {op : BoolOp} {a : Expr} {pos : Pos} {m : ME} (h : PE X a (rdE X.K B W m)) : PE X (.BoolOp op [a] pos) (rdE X.K B W m) := pe_one h
theorem e_and {a b : Expr} {r : List Expr} {pos : Pos} {m n : ME} (ha : PE X a (rdE X.K B W m)) (hb : PE X (.BoolOp .And (b :: r) pos) (rdE X.K B W n)) : PE X (.BoolOp .And (a :: b :: r) pos) (rdE X.K B W (eAnd m n)) := PE.imp (pe_and ha hb) fun σ H Q h => by
  obtain ⟨F, τ, vs, ds, s, p⟩ := h
  refine ⟨F, τ, vs, ds, s, post_imp (post_bind p) (fun d τ1 q x F1 H1 s1 => ?_) fun _ _ q => q⟩
  cases d with
  | bl b =>
    refine ⟨b, s1.topF rfl, ?_⟩
    cases b with
    | true => exact ⟨F1, τ1, vs, ds, s1.pop, q⟩
    | false => exact q _ F1 H1 (s1.pop.push (d := .bl false) rfl)
  | _ => exact False.elim q
theorem e_not {a : Expr} {pos : Pos} {m : ME} (ha : PE X a (rdE X.K B W m)) : PE X (.UnaryOp .Not a pos) (rdE X.K B W (eNot m)) := PE.imp (pe_not ha) fun σ H Q h => by
  obtain ⟨F, τ, vs, ds, s, p⟩ := h
  refine ⟨F, τ, vs, ds, s, post_imp (post_bind p) (fun d τ1 q x F1 H1 s1 => ?_) fun _ _ q => q⟩
  cases d with
  | bl b => exact ⟨b, s1.topF rfl, q _ F1 H1 (s1.pop.push (d := .bl (!b)) rfl)⟩
  | _ => exact False.elim q
def aNil : MA := fun τ => .ok [] τ
def aCons (m : ME) (n : MA) : MA := fun τ => (m τ).bind fun d τ1 => (n τ1).bind fun ds τ2 => .ok (d :: ds) τ2
theorem a_nil : PA X [] (rdA X.K B W aNil) := PA.imp pa_nil fun σ H Q ⟨F, τ, vs, ds, s, p⟩ => p [] F H rfl s
theorem a_cons {e : Expr} {es : List Expr} {m : ME} {n : MA} (ha : PE X e (rdE X.K B W m)) (hr : PA X es (rdA X.K B W n)) (hs : starEach (e :: es) X.env = (false, eval e X.env) :: starEach es X.env := by rfl) : PA X (e :: es) (rdA X.K B W (aCons m n)) := PA.imp (pa_cons ha hr hs) fun σ H Q h => by
  obtain ⟨F, τ, vs, ds, s, p⟩ := h
  refine ⟨F, τ, vs, ds, s, post_imp (post_bind p) (fun a τ1 q x F1 H1 s1 => ⟨F1, τ1, _, _, s1, post_imp (post_bind q) (fun es τ2 q us F2 H2 hl s2 => ?_) fun c τ2 q F2 H2 s2 => q F2 H2 s2.pop⟩) fun _ _ q => q⟩
  exact q (x :: us) F2 H2 (by rw [List.length_cons, List.length_cons, hl]) (s2.swap hl)
def rdZA (K : PySem.W.Frag) (B : Bx) (m : Env → Option (List D)) : TA := fun σ H Q => ∃ F τ vs ds, StT K B F H σ τ vs ds ∧ ∃ es, m τ = some es ∧ ∀ us f, RepOs K B.ca F H es us f → Q us H
def zaNil : Env → Option (List D) := fun _ => some []
def zaCons (m : MZ) (n : Env → Option (List D)) : Env → Option (List D) := fun τ => (m τ).bind fun d => (n τ).bind fun ds => some (d :: ds)
theorem za_nil : PA X [] (rdZA X.K B zaNil) := PA.imp pa_nil fun σ H Q ⟨F, τ, vs, ds, s, es, e, k⟩ => by
  cases (show some [] = some es from e)
  exact k [] (fun _ => 0) ⟨rfl, fun _ => rfl⟩
theorem za_cons {e : Expr} {es : List Expr} {m : MZ} {n : Env → Option (List D)} (ha : PE X e (rdZ X.K B m)) (hr : PA X es (rdZA X.K B n)) (hs : starEach (e :: es) X.env = (false, eval e X.env) :: starEach es X.env := by rfl) : PA X (e :: es) (rdZA X.K B (zaCons m n)) := PA.imp (pa_cons ha hr hs) fun σ H Q h => by
  obtain ⟨F, τ, vs, ds, s, es, e, k⟩ := h
  obtain ⟨a, ea, e⟩ := bind_some e
  obtain ⟨bs, eb, e⟩ := bind_some e
  cases (show some (a :: bs) = some es from e)
  exact ⟨F, τ, vs, ds, s, a, ea, fun x f1 hx => ⟨F, τ, vs, ds, s, bs, eb, fun us f2 hu => k (x :: us) (fun b => f1 b + f2 b) ⟨x, us, f1, f2, rfl, hx, hu, fun _ => rfl⟩⟩⟩
def zC' (g : List D → Option D) (m : Env → Option (List D)) : MZ := fun τ => (m τ).bind g
theorem impCZ {r : List V → Hp → VK → Prop} {g : List D → Option D} {m : Env → Option (List D)} (hs : CallS X.K r g) (σ : L2.St) (H : Hp) (Q : VK) (h : rdZ X.K B (zC' g m) σ H Q) : tCB r (rdZA X.K B m) σ H Q := by
  obtain ⟨F, τ, vs, ds, s, d, e, k⟩ := h
  obtain ⟨a, ea, e⟩ := bind_some e
  exact ⟨F, τ, vs, ds, s, a, ea, fun us f hu => hs _ _ _ _ _ _ _ _ s.same hu e k⟩
theorem impCE {r : List V → Hp → VK → Prop} {g : List D → Option D} {m : MA} (hs : CallS X.K r g) (σ : L2.St) (H : Hp) (Q : VK) (h : rdE X.K B W (eC g m) σ H Q) : tCB r (rdA X.K B W m) σ H Q := by
  obtain ⟨F, τ, vs, ds, s, p⟩ := h
  refine ⟨F, τ, vs, ds, s, post_imp (post_bind p) (fun es τ1 q us F1 H1 hl s1 => ?_) fun _ _ q => q⟩
  obtain ⟨d, e, z, q⟩ := post_ofO q
  obtain ⟨f1, hu⟩ := s1.tops hl
  exact hs _ _ _ _ _ _ _ _ s1.same hu e fun v f hv => q v F1 H1 ((s1.pops hl).push ((repO_fz z).mp hv).1)
section
variable {x : Str} {p pos : Pos} {e : Expr} {es : List Expr} {id T : String} {r : List V → Hp → VK → Prop} {g : List D → Option D}
theorem z_callB {m : Env → Option (List D)} (hc : CallR X (.builtin id) r) (hs : CallS X.K r g) (hg : Gl X x) (hm : X.mg x = none) (hv : bootBuiltins x = some (.builtin id)) (ha : PA X (e :: es) (rdZA X.K B m)) (hn : x ≠ "__name__" := by decide) (hdb : (x == ("__debug__" : Str)) = false := by decide)
    (he : starEach (e :: es) X.env = (false, eval e X.env) :: starEach es X.env := by rfl) (hpl : (backTo pos (starEach es X.env)).any (·.1) = false := by rfl) : PE X (.Call (.Name x p) (e :: es) [] pos) (rdZ X.K B (zC' g m)) := PE.imp (pe_callB hc hg hm hv ha hn hdb he hpl) (impCZ hs)
theorem e_callTy {m : MA} (hc : CallR X (.type T) r) (hs : CallS X.K r g) (hg : Gl X x) (hm : X.mg x = none) (hv : bootBuiltins x = some (.type T)) (ha : PA X (e :: es) (rdA X.K B W m)) (hn : x ≠ "__name__" := by decide) (hdb : (x == ("__debug__" : Str)) = false := by decide)
    (he : starEach (e :: es) X.env = (false, eval e X.env) :: starEach es X.env := by rfl) (hpl : (backTo pos (starEach es X.env)).any (·.1) = false := by rfl) : PE X (.Call (.Name x p) (e :: es) [] pos) (rdE X.K B W (eC g m)) := PE.imp (pe_callTy hc hg hm hv ha hn hdb he hpl) (impCE hs)
end
def eTup (m : MA) : ME := fun τ => (m τ).bind fun ds τ1 => if ds.length ≤ 1000000 then .ok (.tup (freezeL ds)) τ1 else .bad
def eLst (m : MA) : ME := fun τ => (m τ).bind fun ds τ1 => if ds.length ≤ 1000000 then .ok (.lst true ds) τ1 else .bad
theorem le_sizeLine {n : Nat} (h : n ≤ 1000000) : n ≤ sizeLine := by rw [sizeLine_eq]; omega
theorem e_tup {es : List Expr} {k : Nat} {pos : Pos} {m : MA} (h : PA X es (rdA X.K B W m)) : PE X (.Tuple es k pos) (rdE X.K B W (eTup m)) := PE.imp (pe_tup h) fun σ H Q h => by
  obtain ⟨F, τ, vs, ds, s, p⟩ := h
  refine ⟨F, τ, vs, ds, s, post_imp (post_bind p) (fun es τ1 q us F1 H1 hl s1 => ?_) fun _ _ q => q⟩
  by_cases z : es.length ≤ 1000000
  · simp only [z, if_true] at q
    refine ⟨le_sizeLine (hl ▸ z), fun p hp => ?_⟩
    obtain ⟨F2, sm, rl, s2⟩ := s1.freeze hl
    exact q _ _ _ (s2.newTup hp rl)
  · simp only [z] at q; exact False.elim q
theorem e_lst {es : List Expr} {pos : Pos} {m : MA} (h : PA X es (rdA X.K B W m)) : PE X (.List es pos) (rdE X.K B W (eLst m)) := PE.imp (pe_lst h) fun σ H Q h => by
  obtain ⟨F, τ, vs, ds, s, p⟩ := h
  refine ⟨F, τ, vs, ds, s, post_imp (post_bind p) (fun es τ1 q us F1 H1 hl s1 => ?_) fun _ _ q => q⟩
  by_cases z : es.length ≤ 1000000
  · simp only [z, if_true] at q
    exact ⟨le_sizeLine (hl ▸ z), fun p hp => q _ _ _ (s1.newLst hl hp)⟩
  · simp only [z] at q; exact False.elim q
end
end Bn
namespace Bn
open PySem PySem.Spec PyProof.Rows L2
structure XOk (X : Cx) (W : WX) : Prop where
  tk : Takes X W
  hp : PassesOwn (model X.prog X.w) X.A X.env X.xe
  calm : X.calm = true
abbrev W0 : WX := fun _ _ _ _ => False
def spP (K : PySem.W.Frag) (ca : Str → Addr) (g : List D → CR) : Sp := fun vs H Q E => ∃ F ds, Same F H ∧ RepL K ca F ds vs ∧
  match g ds with
  | .ok d => ∀ v F' H' f, Same F F' → Same F' H' → Same H H' → RepO K ca F' H' d v f → (∀ a, f a ≤ 1) → (∀ a, 0 < f a → F' a = none ∧ H a = none) → (∀ a, F' a ≠ none → F a ≠ none ∨ H a = none) → Q v H'
  | .ex c => ∀ H', Same H H' → E (.ref (ca c)) none H'
  | .bad => False
structure Fo (P : Program) (w : World) (K : PySem.W.Frag) (mg : Str → Option Value) (base : Heap) (ca : Str → Addr) (k : Nat) (x : Str) (g : List D → CR) : Prop where
  ex : ∃ f fd ps, mg x = some (.ref f) ∧ PySem.W.keepIn K (.ref f) = true ∧ Binds K fd ps [] ∧ FnOk P w K mg base (L2.CX P w) k f fd ps (spP K ca g)
def ofC (r : CR) (τ : Env) : R D := match r with
  | .ok d => .ok d τ
  | .ex c => .ex c τ
  | .bad => .bad
def eCall (g : List D → CR) (m : MA) : ME := fun τ => (m τ).bind fun ds τ1 => ofC (g (freezeL ds)) τ1
section
variable {X : Cx} {B : Bx} {W : WX}
theorem e_call {x : Str} {p pos : Pos} {e : Expr} {es : List Expr} {m : MA} {g : List D → CR} {k j : Nat} (c : XOk X W) (G : Fo X.prog X.w X.K X.mg X.base B.ca k x g) (hr : Room j X.A) (hg : Gl X x) (ha : PA X (e :: es) (rdA X.K B W m)) (hk : k ≤ j := by decide) (hdb : (x == ("__debug__" : Str)) = false := by decide)
    (he : starEach (e :: es) X.env = (false, eval e X.env) :: starEach es X.env := by rfl) (hpl : (backTo pos (starEach es X.env)).any (·.1) = false := by rfl) : PE X (.Call (.Name x p) (e :: es) [] pos) (rdE X.K B W (eCall g m)) := by
  obtain ⟨f, fd, ps, h1, h2, h3, h4⟩ := G.ex
  refine PE.imp (pe_callS h4 (hr.mono hk) hg h1 h2 h3 (fun σ => passAt c.tk σ) ha hdb he hpl) fun σ H Q h => ?_
  obtain ⟨F, τ, vs, ds, s, p⟩ := h
  refine ⟨F, τ, vs, ds, s, post_imp (post_bind p) (fun as τ1 q us F1 H1 hl s1 => ?_) fun _ _ q => q⟩
  obtain ⟨F2, sm, rl, s2⟩ := s1.freeze hl
  refine ⟨F2, freezeL as, s2.same, rl, ?_⟩
  cases eg : g (freezeL as) with
  | ok d => rw [eg] at q; exact fun v F' H' f k1 k2 k3 k4 k5 k6 k7 => q v F' H' (s2.called k1 k2 k3 k4 k5 k6 k7)
  | ex c => rw [eg] at q; exact fun H' k1 => q F2 H' (s2.grown k1)
  | bad => rw [eg] at q; exact q
def R.s {α : Type} : R α → (α → Env → SR) → SR
  | .ok a τ, k => k a τ
  | .ex c τ, _ => .ex c τ
  | .bad, _ => .bad
theorem post_s {α : Type} {K : PySem.W.Frag} {vs : List V} {ds : List D} {D' : Ends} {r : R α} {k : α → Env → SR} {σ : L2.St} (h : postS K B W vs ds D' (r.s k)) : post (fun a τ => postS K B W vs ds D' (k a τ)) (exW K B W σ vs ds) r := by
  cases r with
  | ok a τ => exact h
  | ex c τ => exact fun F H s => h σ F H s
  | bad => exact h
def sSeq (s r : MS) : MS := fun τ => match s τ with
  | .nx τ' => r τ'
  | .rt d τ' => .rt d τ'
  | .bk τ' => .bk τ'
  | .ct τ' => .ct τ'
  | .ex c τ' => .ex c τ'
  | .bad => .bad
def sNil : MS := fun τ => .nx τ
theorem s_nil : PSs X [] (rdS X.K B W sNil) := PSs.imp pss_nil fun D σ H ⟨F, τ, vs, ds, s, p⟩ => p σ F H s
theorem s_one {st : Stmt} {m : MS} (h : PS X st (rdS X.K B W m)) : PSs X [st] (rdS X.K B W m) := pss_one h
theorem s_cons {st : Stmt} {r : List Stmt} {m n : MS} (h : PS X st (rdS X.K B W m)) (hr : PSs X r (rdS X.K B W n)) : PSs X (st :: r) (rdS X.K B W (sSeq m n)) := PSs.imp (pss_cons h hr) fun D σ H ⟨F, τ, vs, ds, s, p⟩ => by
  refine ⟨F, τ, vs, ds, s, ?_⟩
  unfold sSeq at p
  cases e : m τ with
  | nx τ' => rw [e] at p; exact fun σ' F' H' s' => ⟨F', τ', vs, ds, s', p⟩
  | _ => rw [e] at p; exact p
def sRet (m : ME) : MS := fun τ => (m τ).s fun d τ1 => .rt d τ1
theorem s_ret {e : Expr} {pos : Pos} {m : ME} (h : PE X e (rdE X.K B W m)) : PS X (.Return (some e) pos) (rdS X.K B W (sRet m)) := PS.imp (ps_ret h) fun D σ H ⟨F, τ, vs, ds, s, p⟩ =>
  ⟨F, τ, vs, ds, s, post_imp (post_s (σ := σ) p) (fun d τ1 q v F1 H1 s1 => q v σ F1 H1 s1) fun _ _ q => q⟩
def sDrop (m : ME) : MS := fun τ => (m τ).s fun _ τ1 => .nx τ1
theorem s_expr {e : Expr} {pos : Pos} {m : ME} (h : PE X e (rdE X.K B W m)) (hs : swapsWith e none pos.line X.env = pure false := by rfl) : PS X (.Expr e pos) (rdS X.K B W (sDrop m)) := PS.imp (ps_expr h hs) fun D σ H ⟨F, τ, vs, ds, s, p⟩ =>
  ⟨F, τ, vs, ds, s, post_imp (post_s (σ := σ) p) (fun d τ1 q v F1 H1 s1 => q σ F1 H1 s1.pop) fun _ _ q => q⟩
def sIf (c : MT) (a b : MS) : MS := fun τ => (c τ).s fun x τ1 => if x = true then a τ1 else b τ1
theorem s_if {c : Expr} {a b : List Stmt} {pos : Pos} {t : MT} {m n : MS} (hc : PT X c (rdT X.K B W t)) (ha : PSs X a (rdS X.K B W m)) (hb : PSs X b (rdS X.K B W n)) : PS X (.If c a b pos) (rdS X.K B W (sIf t m n)) := PS.imp (ps_if hc ha hb) fun D σ H ⟨F, τ, vs, ds, s, p⟩ => by
  refine ⟨F, τ, vs, ds, s, post_imp (post_s (σ := σ) p) (fun x τ1 q F1 H1 s1 => ?_) fun _ _ q => q⟩
  cases x with
  | true => exact ⟨F1, τ1, vs, ds, s1, q⟩
  | false => exact ⟨F1, τ1, vs, ds, s1, q⟩
def gN (i : Nat) : D → Env → Option Env := fun d τ => some (τ.set i (some d))
theorem StT.put' {K : PySem.W.Frag} {F H : Hp} {σ : L2.St} {τ : Env} {vs : List V} {ds : List D} {v : V} {d : D} {i : Nat} (s : StT K B F H σ τ (v :: vs) (d :: ds)) (hf : ioFree B i) : StT K B F H (σ.set i (some v)) (τ.set i (some d)) vs ds := by
  by_cases h : i < τ.length
  · exact s.put h hf
  · have hl : σ.length = τ.length := by obtain ⟨f1, f2, a, _⟩ := s; exact a.length
    rw [List.set_eq_of_length_le (by omega), List.set_eq_of_length_le (by omega)]
    exact s.pop
theorem g_name {i : Nat} {x : Str} {pos : Pos} (hN : X.N.Nodup) (hi : X.N[i]? = some x) (hx : Loc X.env.scope x) (hio : ioFree B i := by first | (intro p hp; cases hp; done) | (intro p hp; simp only [List.mem_cons, List.not_mem_nil, or_false] at hp; rcases hp with rfl | rfl <;> simp) | (intro p hp; simp only [List.mem_cons, List.not_mem_nil, or_false] at hp; rcases hp with rfl | rfl | rfl <;> simp) | (intro p hp; simp only [List.mem_cons, List.not_mem_nil, or_false] at hp; subst hp; simp)) (hf : X.fn x = true ∨ X.env.scope.names.lookup x = some .local := by first | exact .inl rfl | exact .inr rfl | assumption) : PG X (.Name x pos) (rdG X.K B [i] (gN i)) :=
  PG.imp (pg_name hN hi hx hf) fun v σ H Q ⟨F, τ, vs, ds, d, s, τ', e, k⟩ => by
    cases (show some (τ.set i (some d)) = some τ' from e)
    refine k _ F H (s.put' hio) (by rw [List.length_set]) fun j hj => ?_
    rw [List.getElem?_set_ne]
    exact fun e => hj (by simp [e])
def sAsg (m : ME) (g : D → Env → Option Env) : MS := fun τ => (m τ).s fun d τ1 => match g d τ1 with
  | some τ2 => .nx τ2
  | none => .bad
theorem s_set {i : Nat} {x : Str} {e : Expr} {pos pos' : Pos} {m : ME} (hN : X.N.Nodup) (hi : X.N[i]? = some x) (hx : Loc X.env.scope x) (he : PE X e (rdE X.K B W m)) (hio : ioFree B i := by first | (intro p hp; cases hp; done) | (intro p hp; simp only [List.mem_cons, List.not_mem_nil, or_false] at hp; rcases hp with rfl | rfl <;> simp) | (intro p hp; simp only [List.mem_cons, List.not_mem_nil, or_false] at hp; rcases hp with rfl | rfl | rfl <;> simp) | (intro p hp; simp only [List.mem_cons, List.not_mem_nil, or_false] at hp; subst hp; simp)) (hs : swapsWith e (some (.Name x pos')) pos.line X.env = pure false := by rfl)
    (hf : X.fn x = true ∨ X.env.scope.names.lookup x = some .local := by first | exact .inl rfl | exact .inr rfl | assumption) : PS X (.Assign [.Name x pos'] e pos) (rdS X.K B W (sAsg m (gN i))) := PS.imp (ps_set hN hi hx he hs hf) fun D σ H ⟨F, τ, vs, ds, s, p⟩ =>
  ⟨F, τ, vs, ds, s, post_imp (post_s (σ := σ) p) (fun d τ1 q v F1 H1 s1 => q _ F1 H1 (s1.put' hio)) fun _ _ q => q⟩
structure Ec (K : PySem.W.Frag) (mg : Str → Option Value) (ca : Str → Addr) (x : Str) : Prop where
  g : mg x = some (.ref (ca x))
  k : PySem.W.keepIn K (.ref (ca x)) = true
  q : PySem.W.excIn K (ca x) [.type "ValueError", .type "Exception", .type "BaseException", .type "object"] "ValueError.__new__" = true
  b : PySem.W.subIn K (.ref (ca x)) (.type "BaseException") = some true
  t : PySem.W.typeIn K (.ref (ca x)) = some (.type "type")
def sRaise (x : Str) : MS := fun τ => .ex x τ
theorem s_raise {x m : Str} {j} {p p2 pos1 pos : Pos} (c : XOk X W) (E : Ec X.K X.mg B.ca x) (hg : Gl X x) (hdb : (x == ("__debug__" : Str)) = false := by decide) : PS X (.Raise (some (.Call (.Name x p) [.Constant (.str m) j p2] [] pos1)) none pos) (rdS X.K B W (sRaise x)) :=
  PS.imp (ps_raise c.calm c.tk (pmk_own PySem.F.excBase_ValueError E.q E.g E.k (raises_own E.b E.t) hg hdb)) fun D σ H ⟨F, τ, vs, ds, s, p⟩ => p σ F H s
theorem sqOf {K : PySem.W.Frag} {H : Hp} {a : Addr} {xs : List V} (h : H a = some (.lst xs)) : SqL K H a xs := .inl (.inl h)
structure ItOk (K : PySem.W.Frag) (B : Bx) (J : It) (items : List D) (tv : List V) (td : List D) : Prop where
  go : ∀ i F H σ τ, StT K B F H σ τ tv td → i < items.length → J.go i H
  st : ∀ F H σ τ, StT K B F H σ τ tv td → J.stop items.length H
  y : ∀ i d F H σ τ x H' us es, us.length = es.length → items[i]? = some d → StT K B F H σ τ (us ++ tv) (es ++ td) → J.yld i H x H' → ∃ F', StT K B F' H' σ τ (x :: (us ++ tv)) (d :: (es ++ td))
def rdI (K : PySem.W.Frag) (B : Bx) (W : WX) (m : MA) : TI := fun σ H R => ∃ F τ vs ds, StT K B F H σ τ vs ds ∧ post (fun items τ1 => ∀ J us es F' H', us.length = es.length → StT K B F' H' σ τ1 (us ++ vs) (es ++ ds) → ItOk K B J items (us ++ vs) (es ++ ds) → R J H') (exW K B W σ vs ds) (m τ)
theorem PI.imp {tg it : Expr} {t t' : TI} (h : PI X tg it t) (k : ∀ σ H R, t' σ H R → t σ H R) : PI X tg it t' := ⟨fun p s σ H R I q => h.run p s σ H R I (k _ _ _ q)⟩
def iL (m : ME) : MA := fun τ => (m τ).bind fun d τ1 => match freeze d with
  | .lst _ es => .ok es τ1
  | _ => .bad
theorem freeze_fz : ∀ d : D, isFz (freeze d) = true
  | .lst true _ => rfl | .lst false _ => rfl | .obj true _ _ _ => rfl | .obj false _ _ _ => rfl
  | .non => rfl | .bl _ => rfl | .int _ => rfl | .str _ => rfl | .ty _ => rfl | .tup _ => rfl | .cst _ => rfl | .val _ => rfl | .exc _ => rfl | .tpo _ => rfl | .dct true _ _ => rfl | .dct false _ _ => rfl
theorem StT.freeze1 {K : PySem.W.Frag} {F H : Hp} {σ : L2.St} {τ : Env} {vs : List V} {ds : List D} {v : V} {d : D} (s : StT K B F H σ τ (v :: vs) (d :: ds)) : ∃ F', StT K B F' H σ τ (v :: vs) (Bn.freeze d :: ds) := by
  obtain ⟨F2, sm, ⟨_, _, e2, r, _⟩, s2⟩ := StT.freeze (us := [v]) (es := [d]) s rfl
  cases e2
  exact ⟨F2, s2.push r⟩
theorem itOk_list {K : PySem.W.Frag} {a : Addr} {es : List D} {vs : List V} {ds : List D} : ItOk K B (Itl K a) es (.ref a :: vs) (.lst false es :: ds) := by
  have look : ∀ {F H σ τ}, StT K B F H σ τ (.ref a :: vs) (.lst false es :: ds) → ∃ us, SqL K H a us ∧ RepL K B.ca F es us := fun {F H σ τ} s => by
    obtain ⟨a', us, e, h1, h2⟩ := s.topF rfl
    cases e
    exact ⟨us, sqOf (s.same _ _ h1), h2⟩
  refine ⟨fun i F H σ τ s hi => ?_, fun F H σ τ s => ?_, fun i d F H σ τ x H' us' es' hl hd s y => ?_⟩
  · obtain ⟨us, h1, h2⟩ := look s
    exact ⟨us, us[i]'(by rw [h2.length]; exact hi), h1, by simp [h2.length, hi]⟩
  · obtain ⟨us, h1, h2⟩ := look s
    exact ⟨us, h1, by rw [h2.length]; exact Nat.le_refl _⟩
  · obtain ⟨rfl, y⟩ := y
    obtain ⟨us, h1, h2⟩ := look (s.pops hl)
    obtain ⟨v, e, r⟩ := h2.get hd
    rw [y us h1] at e; cases e
    exact ⟨F, s.push r⟩
def rangeD (lo : Int) (n : Nat) : List D := (List.range n).map fun k => D.int (lo + (k : Nat))
theorem itOk_range {K : PySem.W.Frag} {lo : Int} {n : Nat} {vs : List V} {ds : List D} : ItOk K B (Itr lo n) (rangeD lo n) vs ds := by
  refine ⟨fun i F H σ τ s hi => ?_, fun F H σ τ s => ?_, fun i d F H σ τ x H' us' es' hl hd s y => ?_⟩
  · show i < n; simpa [rangeD] using hi
  · show n ≤ (rangeD lo n).length; simp [rangeD]
  · obtain ⟨rfl, rfl⟩ := y
    have hi : i < n := by simpa [rangeD] using (List.getElem?_eq_some_iff.mp hd).1
    have e : d = .int (lo + (i : Nat)) := by
      unfold rangeD at hd
      rw [List.getElem?_map, List.getElem?_range hi] at hd
      exact (Option.some.inj hd).symm
    subst e
    exact ⟨F, s.push (d := .int _) rfl⟩
def strD (s : Str) : List D := s.cps.toList.map fun c => D.str ⟨#[c]⟩
theorem itOk_str {K : PySem.W.Frag} {z : Str} {vs : List V} {ds : List D} : ItOk K B (Its z) (strD z) vs ds := by
  refine ⟨fun i F H σ τ s hi => ?_, fun F H σ τ s => ?_, fun i d F H σ τ x H' us' es' hl hd s y => ?_⟩
  · show i < z.cps.size; simpa [strD] using hi
  · show z.cps.size ≤ (strD z).length; simp [strD]
  · obtain ⟨rfl, c, hc, rfl⟩ := y
    have e : d = .str ⟨#[c]⟩ := by
      unfold strD at hd
      rw [List.getElem?_map, Array.getElem?_toList, hc] at hd
      exact (Option.some.inj hd).symm
    subst e
    exact ⟨F, s.push (d := .str _) rfl⟩
theorem i_list {tg l : Expr} {m : ME} (hl : PE X l (rdE X.K B W m)) : PI X tg l (rdI X.K B W (iL m)) := PI.imp (pi_list hl) fun σ H R ⟨F, τ, vs, ds, s, p⟩ => by
  refine ⟨F, τ, vs, ds, s, post_imp (post_bind p) (fun d τ1 q v F1 H1 s1 => ?_) fun _ _ q => q⟩
  obtain ⟨F2, s2⟩ := s1.freeze1
  have hz := freeze_fz d
  cases e : freeze d with
  | lst m es =>
    cases m with
    | true => rw [e] at hz; cases hz
    | false =>
      simp only [e] at q
      rw [e] at s2
      obtain ⟨a, us, ev, h1, h2⟩ := s2.topF rfl
      subst ev
      exact ⟨a, rfl, ⟨us, sqOf (s2.same _ _ h1)⟩, q (Itl X.K a) [.ref a] [.lst false es] F2 H1 rfl s2 itOk_list⟩
  | _ => simp only [e] at q; exact False.elim q
def iS (m : ME) : MA := fun τ => (m τ).bind fun d τ1 => match d with
  | .str z => .ok (strD z) τ1
  | _ => .bad
theorem i_str {tg l : Expr} {m : ME} (hl : PE X l (rdE X.K B W m)) : PI X tg l (rdI X.K B W (iS m)) := PI.imp (pi_str hl) fun σ H R ⟨F, τ, vs, ds, s, p⟩ => by
  refine ⟨F, τ, vs, ds, s, post_imp (post_bind p) (fun d τ1 q v F1 H1 s1 => ?_) fun _ _ q => q⟩
  cases d with
  | str z => exact ⟨z, s1.topF rfl, q (Its z) [] [] F1 H1 rfl s1.pop itOk_str⟩
  | _ => exact False.elim q
def iR1 (m : MA) : MA := fun τ => (m τ).bind fun ds τ1 => match ds with
  | [.int j] => if -(2 ^ 62) ≤ j ∧ j < 2 ^ 62 then .ok (rangeD 0 j.toNat) τ1 else .bad
  | _ => .bad
theorem i_range1 {tg a : Expr} {p pos : Pos} {m : MA} (hg : Gl X "range") (hm : X.mg "range" = none) (ha : PA X [a] (rdA X.K B W m)) (hs : starEach [a] X.env = [(false, eval a X.env)] := by rfl) : PI X tg (.Call (.Name "range" p) [a] [] pos) (rdI X.K B W (iR1 m)) := PI.imp (pi_range1 hg hm ha hs) fun σ H R ⟨F, τ, vs, ds, s, p⟩ => by
  refine ⟨F, τ, vs, ds, s, post_imp (post_bind p) (fun es τ1 q us F1 H1 hl s1 => ?_) fun _ _ q => q⟩
  have g := s1.pops hl
  match es, q, s1, hl with
  | [.int j], q, s1, hl =>
    match us, s1, hl with
    | [v], s1, _ =>
      cases (show v = .int j from s1.topF rfl)
      by_cases z : -(2 ^ 62) ≤ j ∧ j < 2 ^ 62
      · simp only [z, and_self, if_true] at q
        exact ⟨j, rfl, z.1, z.2, q (Itr 0 j.toNat) [] [] F1 H1 rfl g itOk_range⟩
      · simp only [z, if_false] at q; exact False.elim q
theorem StT.pushL {K : PySem.W.Frag} {F H : Hp} {σ : L2.St} {τ : Env} {vs us : List V} {ds es : List D} (s : StT K B F H σ τ vs ds) (h : RepL K B.ca F es us) : StT K B F H σ τ (us ++ vs) (es ++ ds) := by
  obtain ⟨f1, f2, A, b, w, io⟩ := s
  have b2 := (h.os (H := H)).append b
  have e3 : (fun b => 0 + f2 b) = f2 := funext fun b => by omega
  rw [e3] at b2
  exact ⟨f1, f2, A, b2, w, io⟩
end
end Bn
namespace Bn
open PySem PySem.Spec PyProof.Rows L2
def forL (g : D → Env → Option Env) (b : MS) : List D → Env → SR
  | [], τ => .nx τ
  | d :: r, τ => match g d τ with
    | none => .bad
    | some τ1 => match b τ1 with
      | .nx τ2 => forL g b r τ2
      | .ct τ2 => forL g b r τ2
      | .bk τ2 => .nx τ2
      | .rt d τ2 => .rt d τ2
      | .ex c τ2 => .ex c τ2
      | .bad => .bad
def sFor (m : MA) (g : D → Env → Option Env) (b : MS) : MS := fun τ => (m τ).s fun items τ1 => forL g b items τ1
def whileM (c : MT) (b : MS) : Nat → Env → SR
  | 0, _ => .bad
  | n + 1, τ => match c τ with
    | .ok true τ1 => (match b τ1 with
      | .nx τ2 => whileM c b n τ2
      | .ct τ2 => whileM c b n τ2
      | .bk τ2 => .nx τ2
      | .rt d τ2 => .rt d τ2
      | .ex e τ2 => .ex e τ2
      | .bad => .bad)
    | .ok false τ1 => .nx τ1
    | .ex e τ1 => .ex e τ1
    | .bad => .bad
def sWhile (fuel : Env → Nat) (c : MT) (b : MS) : MS := fun τ => whileM c b (fuel τ) τ
section
variable {X : Cx} {B : Bx} {W : WX}
theorem postS_pops {K : PySem.W.Frag} {us vs : List V} {es ds : List D} {D' : Ends} {r : SR} (hl : us.length = es.length) (h : postS K B W vs ds D' r) : postS K B W (us ++ vs) (es ++ ds) D' r := by
  cases r with
  | nx τ => exact fun σ F H s => h σ F H (s.pops hl)
  | rt d τ => exact fun v σ F H s => h v σ F H (StT.pops (us := us) (es := es) (by
      obtain ⟨f1, f2, A, ⟨v', r', g1, g2, e, b1, b2, q⟩, w, io⟩ := s
      cases e
      obtain ⟨g3, g4, c1, c2, q2⟩ := b2.split' hl
      exact ⟨f1, f2, A, c1.append (us := v :: vs) (es := d :: ds) (g := fun b => g1 b + g4 b) ⟨v, vs, g1, g4, rfl, b1, c2, fun _ => rfl⟩ |> fun z => by
        have e : (fun b => g3 b + (g1 b + g4 b)) = f2 := funext fun b => by rw [q, q2]; omega
        rw [e] at z; exact z, w, io⟩) hl)
  | bk τ => exact fun σ F H s => h σ F H (s.pops hl)
  | ct τ => exact fun σ F H s => h σ F H (s.pops hl)
  | ex c τ => exact fun σ F H s => h σ F H (s.pops hl)
  | bad => exact h
theorem for_core {J : It} {items : List D} {tv : List V} {td : List D} {g : D → Env → Option Env} {sl : List Nat} {b : MS} {K : PySem.W.Frag} {σ : L2.St} {H F : Hp} {τ : Env} {D' : Ends} (ok : ItOk K B J items tv td) (s : StT K B F H σ τ tv td) (p : postS K B W tv td D' (forL g b items τ)) :
    ∃ W' : Nat → Nat → L2.St → Hp → Prop, (∃ m, W' 0 m σ H) ∧ ∀ i m σ H, W' i m σ H → (J.stop i H ∧ D'.nx σ H) ∨ (J.go i H ∧ ∃ N : L2.St → Hp → Prop, (∀ σ' H', N σ' H' → ∃ m', m' < m ∧ W' (i + 1) m' σ' H') ∧
      ∀ x H', J.yld i H x H' → rdG K B sl g x σ H' fun σ2 H2 => rdS K B W b { D' with nx := N, ct := N, bk := D'.nx } σ2 H2) := by
  refine ⟨fun i m σ H => m = items.length - i ∧ i ≤ items.length ∧ ∃ F τ, StT K B F H σ τ tv td ∧ postS K B W tv td D' (forL g b (items.drop i) τ), ⟨_, rfl, Nat.zero_le _, F, τ, s, p⟩, ?_⟩
  rintro i m σ H ⟨rfl, hi, F, τ, s, p⟩
  by_cases h : i < items.length
  · refine .inr ⟨ok.go i F H σ τ s h, fun σ' H' => ∃ F τ, StT K B F H' σ' τ tv td ∧ postS K B W tv td D' (forL g b (items.drop (i + 1)) τ), fun σ' H' ⟨F', τ', s', p'⟩ => ⟨items.length - (i + 1), by omega, rfl, h, F', τ', s', p'⟩, fun x H' y => ?_⟩
    have e : items[i]? = some items[i] := by simp [h]
    obtain ⟨F', s'⟩ := ok.y i _ F H σ τ x H' [] [] rfl e s y
    rw [List.drop_eq_getElem_cons h] at p
    unfold forL at p
    cases eg : g items[i] τ with
    | none => rw [eg] at p; exact p.elim
    | some τ1 =>
      rw [eg] at p
      refine ⟨F', τ, tv, td, _, s', τ1, eg, fun σ2 F2 H2 s2 _ _ => ⟨F2, τ1, tv, td, s2, ?_⟩⟩
      cases eb : b τ1 with
      | nx τ2 => simp only [eb] at p; exact fun σ3 F3 H3 s3 => ⟨F3, τ2, s3, p⟩
      | ct τ2 => simp only [eb] at p; exact fun σ3 F3 H3 s3 => ⟨F3, τ2, s3, p⟩
      | bk τ2 => simp only [eb] at p; exact p
      | rt d τ2 => simp only [eb] at p; exact p
      | ex c τ2 => simp only [eb] at p; exact p
      | bad => simp only [eb] at p; exact p
  · have e : i = items.length := by omega
    subst e
    rw [List.drop_length] at p
    exact .inl ⟨ok.st F H σ τ s, p σ F H s⟩
theorem s_for {tg it : Expr} {body : List Stmt} {pos : Pos} {m : MA} {sl : List Nat} {g : D → Env → Option Env} {b : MS} (c : XOk X W) (hi : PI X tg it (rdI X.K B W m)) (hg : PG X tg (rdG X.K B sl g)) (hb : PSs X body (rdS X.K B W b))
    (hs : ∀ x, foldedSetIterable it X.env x = pure x := by intro _; rfl) : PS X (.For tg it body [] pos) (rdS X.K B W (sFor m g b)) := PS.imp (ps_for c.hp c.calm hi hg hb hs) fun D' σ H ⟨F, τ, vs, ds, s, p⟩ =>
  ⟨F, τ, vs, ds, s, post_imp (post_s (σ := σ) p) (fun items τ1 q J us es F' H' hl s' ok => for_core ok s' (postS_pops hl q)) fun _ _ q => q⟩
theorem s_while {c : Expr} {body : List Stmt} {pos : Pos} {t : MT} {b : MS} (k : XOk X W) (fuel : Env → Nat) (hc : PT X c (rdT X.K B W t)) (hb : PSs X body (rdS X.K B W b)) : PS X (.While c body [] pos) (rdS X.K B W (sWhile fuel t b)) := PS.imp (ps_while k.hp hc hb) fun D' σ H ⟨F, τ, vs, ds, s, p⟩ => by
  refine ⟨fun m σ H => ∃ F τ, StT X.K B F H σ τ vs ds ∧ postS X.K B W vs ds D' (whileM t b m τ), ⟨_, F, τ, s, p⟩, ?_⟩
  rintro m σ H ⟨F, τ, s, p⟩
  cases m with
  | zero => exact False.elim p
  | succ m =>
    unfold whileM at p
    refine ⟨F, τ, vs, ds, s, ?_⟩
    cases et : t τ with
    | bad => rw [et] at p; exact p
    | ex e τ1 => rw [et] at p; exact fun F1 H1 s1 => p σ F1 H1 s1
    | ok x τ1 =>
      rw [et] at p
      intro F1 H1 s1
      cases x with
      | false => exact p σ F1 H1 s1
      | true =>
        refine ⟨fun σ' H' => ∃ F τ, StT X.K B F H' σ' τ vs ds ∧ postS X.K B W vs ds D' (whileM t b m τ), fun σ' H' ⟨F', τ', s', p'⟩ => ⟨m, Nat.lt_succ_self m, F', τ', s', p'⟩, F1, τ1, vs, ds, s1, ?_⟩
        cases eb : b τ1 with
        | nx τ2 => simp only [eb] at p; exact fun σ3 F3 H3 s3 => ⟨F3, τ2, s3, p⟩
        | ct τ2 => simp only [eb] at p; exact fun σ3 F3 H3 s3 => ⟨F3, τ2, s3, p⟩
        | bk τ2 => simp only [eb] at p; exact p
        | rt d τ2 => simp only [eb] at p; exact p
        | ex c τ2 => simp only [eb] at p; exact p
        | bad => simp only [eb] at p; exact p
def wipeE (τ : Env) : List Nat → Env
  | [] => τ
  | v :: vs => (wipeE τ vs).set v none
def lcL (own : List Nat) (g : D → Env → Option Env) (t : MT) (m : ME) : List D → List D → Env → R (List D)
  | [], acc, τ => .ok acc τ
  | d :: r, acc, τ => match g d τ with
    | none => .bad
    | some τ1 => (t τ1).bind fun b τ2 => if b = true then (m τ2).bind fun e τ3 => if acc.length < 1000000 then lcL own g t m r (acc ++ [e]) (wipeE τ3 own) else .bad else lcL own g t m r acc (wipeE τ2 own)
def eLc (own : List Nat) (it : MA) (g : D → Env → Option Env) (t : MT) (m : ME) : ME := fun τ => (it τ).bind fun items τ1 => match lcL own g t m items [] (wipeE τ1 own) with
  | .ok acc τ2 => .ok (.lst true acc) τ2
  | _ => .bad
theorem Sl.reset {K : PySem.W.Frag} {ca : Str → Addr} {F H : Hp} : ∀ {τ : Env} {σ σ' : L2.St} {f : Ct}, Sl K ca F H τ σ f → σ'.length = σ.length → (∀ (j : Nat) (d : D), τ[j]? = some (some d) → σ'[j]? = σ[j]?) → Sl K ca F H τ σ' f
  | [], σ, σ', f, h, hl, k => by
    obtain ⟨rfl, h2⟩ := h
    exact ⟨List.eq_nil_of_length_eq_zero hl, h2⟩
  | none :: τ, _, σ', f, ⟨x, r, h1, h2⟩, hl, k => by
    subst h1
    cases σ' with
    | nil => cases hl
    | cons y r' => exact ⟨y, r', rfl, h2.reset (by simpa using hl) fun j d hj => by simpa using k (j + 1) d (by simpa using hj)⟩
  | some d :: τ, _, σ', f, ⟨v, r, f1, f2, h1, h2, h3, h4⟩, hl, k => by
    subst h1
    cases σ' with
    | nil => cases hl
    | cons y r' =>
      have e : some y = some (some v) := by simpa using k 0 d (by simp)
      cases e
      exact ⟨v, r', f1, f2, rfl, h2, h3.reset (by simpa using hl) fun j d hj => by simpa using k (j + 1) d (by simpa using hj), h4⟩
theorem wipe_out {σ : L2.St} {j : Nat} : ∀ {own : List Nat}, j ∉ own → (wipe σ own)[j]? = σ[j]?
  | [], _ => rfl
  | v :: vs, h => by
    unfold wipe
    rw [List.getElem?_set_ne (fun e => h (by simp [e]))]
    exact wipe_out fun z => h (List.mem_cons_of_mem _ z)
theorem wipeE_in {τ : Env} {j : Nat} {d : D} : ∀ {own : List Nat}, (wipeE τ own)[j]? = some (some d) → j ∉ own
  | [], _ => by simp
  | v :: vs, h => by
    unfold wipeE at h
    by_cases e : v = j
    · subst e
      by_cases hv : v < (wipeE τ vs).length
      · rw [List.getElem?_set_self hv] at h; cases h
      · rw [List.getElem?_eq_none (by simpa using hv)] at h; cases h
    · rw [List.getElem?_set_ne e] at h
      simp only [List.mem_cons, not_or]
      exact ⟨fun z => e z.symm, wipeE_in h⟩
theorem wipe_in {σ : L2.St} {j : Nat} : ∀ {own : List Nat}, j ∈ own → j < σ.length → (wipe σ own)[j]? = some none
  | [], h, _ => by simp at h
  | v :: vs, h, hl => by
    unfold wipe
    by_cases e : v = j
    · subst e; rw [List.getElem?_set_self (by rw [wipe_length]; exact hl)]
    · rw [List.getElem?_set_ne e]
      exact wipe_in (by rcases List.mem_cons.mp h with z | z; exact absurd z.symm e; exact z) hl
theorem wipe_eq {a b : L2.St} {own : List Nat} (hl : a.length = b.length) (h : ∀ j, j ∉ own → a[j]? = b[j]?) : wipe a own = wipe b own := by
  apply List.ext_getElem?
  intro j
  by_cases e : j ∈ own
  · by_cases hj : j < a.length
    · rw [wipe_in e hj, wipe_in e (by omega)]
    · rw [List.getElem?_eq_none (by rw [wipe_length]; omega), List.getElem?_eq_none (by rw [wipe_length]; omega)]
  · rw [wipe_out e, wipe_out e]; exact h j e
theorem wipe_wipe {σ : L2.St} {own : List Nat} : wipe (wipe σ own) own = wipe σ own := wipe_eq (wipe_length σ own) fun j h => wipe_out h
theorem StT.reset {K : PySem.W.Frag} {F H : Hp} {σ σ' : L2.St} {τ : Env} {vs : List V} {ds : List D} (s : StT K B F H σ τ vs ds) (hl : σ'.length = σ.length) (k : ∀ (j : Nat) (d : D), τ[j]? = some (some d) → σ'[j]? = σ[j]?) (io : IoOk B σ') : StT K B F H σ' τ vs ds := by
  obtain ⟨f1, f2, a, b, w, _⟩ := s
  exact ⟨f1, f2, a.reset hl k, b, w, io⟩
theorem StT.wipeE {K : PySem.W.Frag} {F H : Hp} {σ : L2.St} {τ : Env} {vs : List V} {ds : List D} (s : StT K B F H σ τ vs ds) : ∀ own : List Nat, StT K B F H σ (Bn.wipeE τ own) vs ds
  | [] => s
  | _ :: own => (s.wipeE own).forget
def ioFreeL (B : Bx) (own : List Nat) : Prop := ∀ p ∈ B.io, p.1 ∉ own
theorem StT.wiped {K : PySem.W.Frag} {F H : Hp} {σ : L2.St} {τ : Env} {vs : List V} {ds : List D} {own : List Nat} (s : StT K B F H σ τ vs ds) (hio : ioFreeL B own) : StT K B F H (wipe σ own) (Bn.wipeE τ own) vs ds := by
  have io : IoOk B σ := by obtain ⟨_, _, _, _, _, io⟩ := s; exact io
  exact (s.wipeE own).reset (wipe_length _ _) (fun j d h => wipe_out (wipeE_in h)) fun p hp => by rw [wipe_out (hio p hp)]; exact io p hp
theorem StT.unwiped {K : PySem.W.Frag} {F H : Hp} {σ : L2.St} {τ : Env} {vs : List V} {ds : List D} {own : List Nat} (s : StT K B F H (wipe σ own) (Bn.wipeE τ own) vs ds) (hio : ioFreeL B own) : StT K B F H σ (Bn.wipeE τ own) vs ds := by
  have io : IoOk B (wipe σ own) := by obtain ⟨_, _, _, _, _, io⟩ := s; exact io
  exact s.reset (wipe_length _ _).symm (fun j d h => (wipe_out (wipeE_in h)).symm) fun p hp => by rw [← wipe_out (hio p hp)]; exact io p hp
theorem lc_core' {J : It} {items : List D} {tv : List V} {td : List D} {g : D → Env → Option Env} {sl own : List Nat} {t : MT} {m : ME} {K : PySem.W.Frag} {σ : L2.St} {H F : Hp} {τ τ2 : Env} {acc2 : List D} {Q : VK} (ok : ItOk K B J items tv td) (hsl : ∀ j ∈ sl, j ∈ own) (hio : ioFreeL B own) (s : StT K B F H σ τ tv td)
    (e : lcL own g t m items [] (Bn.wipeE τ own) = .ok acc2 τ2) (k : ∀ v F H, StT K B F H σ τ2 (v :: tv) (.lst true acc2 :: td) → Q v H) : ∀ D, H D = none → ∃ W' : Nat → Nat → Hp → Prop, (∃ m, W' 0 m (upd H D (.lst []))) ∧ ∀ i n H, W' i n H →
      (J.stop i H ∧ Q (.ref D) H) ∨ (J.go i H ∧ ∃ Nx : Hp → Prop, (∀ H', Nx H' → ∃ m', m' < n ∧ W' (i + 1) m' H') ∧ ∀ x H', J.yld i H x H' → rdG K B sl g x (wipe σ own) H' fun σ2 H2 => wipe σ2 own = wipe σ own ∧ rdT K B W0 t σ2 H2 fun b H3 =>
        if b = true then rdE K B W0 m σ2 H3 fun y H4 => ∃ acc, H4 D = some (.lst acc) ∧ acc.length < sizeLine ∧ Nx (upd H4 D (.lst (acc ++ [y]))) else Nx H3) := by
  intro D hD
  have s0 : StT K B F (upd H D (.lst [])) σ τ (.ref D :: tv) (.lst true [] :: td) := s.newLst (us := []) (es := []) rfl hD
  have s1 := s0.wiped (own := own) hio
  -- the items are walked with the new list on top
  refine ⟨fun i n H => n = items.length - i ∧ i ≤ items.length ∧ ∃ F τ acc, StT K B F H (wipe σ own) (Bn.wipeE τ own) (.ref D :: tv) (.lst true acc :: td) ∧ lcL own g t m (items.drop i) acc (Bn.wipeE τ own) = .ok acc2 τ2, ⟨_, rfl, Nat.zero_le _, F, τ, [], s1, e⟩, ?_⟩
  rintro i n H ⟨rfl, hi, F, τ, acc, s, e⟩
  by_cases h : i < items.length
  · refine .inr ⟨ok.go i F H _ _ s.pop h, fun H' => ∃ F τ acc, StT K B F H' (wipe σ own) (Bn.wipeE τ own) (.ref D :: tv) (.lst true acc :: td) ∧ lcL own g t m (items.drop (i + 1)) acc (Bn.wipeE τ own) = .ok acc2 τ2,
      fun H' ⟨F', τ', acc', s', e'⟩ => ⟨items.length - (i + 1), by omega, rfl, h, F', τ', acc', s', e'⟩, fun x H' y => ?_⟩
    have ei : items[i]? = some items[i] := by simp [h]
    obtain ⟨F', s'⟩ := ok.y i _ F H _ _ x H' [.ref D] [.lst true acc] rfl ei s y
    rw [List.drop_eq_getElem_cons h] at e
    unfold lcL at e
    cases eg : g items[i] (Bn.wipeE τ own) with
    | none => rw [eg] at e; cases e
    | some τ1 =>
      rw [eg] at e
      refine ⟨F', _, _, _, _, s', τ1, eg, fun σ2 F2 H2 s2 l2 k2 => ⟨?_, F2, τ1, _, _, s2, ?_⟩⟩
      · rw [← wipe_wipe (σ := σ)]
        exact wipe_eq l2 fun j hj => k2 j fun z => hj (hsl j z)
      · have w2 : wipe σ2 own = wipe σ own := by
          rw [← wipe_wipe (σ := σ)]
          exact wipe_eq l2 fun j hj => k2 j fun z => hj (hsl j z)
        cases et : t τ1 with
        | bad => simp only [et, R.bind] at e; cases e
        | ex c τ3 => simp only [et, R.bind] at e; cases e
        | ok b τ3 =>
          simp only [et, R.bind] at e
          intro F3 H3 s3
          cases b with
          | false =>
            simp only [Bool.false_eq_true, if_false] at e
            rw [if_neg Bool.false_ne_true]
            have s4 := s3.wiped (own := own) hio
            rw [w2] at s4
            exact ⟨F3, τ3, acc, s4, e⟩
          | true =>
            simp only [if_true] at e
            rw [if_pos rfl]
            refine ⟨F3, τ3, _, _, s3, ?_⟩
            cases em : m τ3 with
            | bad => simp only [em] at e; cases e
            | ex c τ4 => simp only [em] at e; cases e
            | ok d τ4 =>
              simp only [em] at e
              intro v F4 H4 s4
              by_cases hacc : acc.length < 1000000
              · rw [if_pos hacc] at e
                obtain ⟨ff, q⟩ := s4.pop.top
                obtain ⟨a', vs', g', ea, hx, hg, hq⟩ := q
                cases ea
                refine ⟨vs', hx, ?_, F4, τ4, acc ++ [d], ?_, e⟩
                · rw [hg.length, sizeLine_eq]; omega
                · have s5 := (StT.swap (us := [v]) (es := [d]) s4 rfl).change (us := [v]) (ds := [d]) (ys := vs' ++ [v]) (es2 := acc ++ [d]) rfl hx fun g1 g2 r1 r2 => ⟨_, r1.append r2, fun b => Nat.le_refl _⟩
                  have s6 := s5.wiped (own := own) hio
                  rw [w2] at s6
                  exact s6
              · rw [if_neg hacc] at e; cases e
  · have ei : i = items.length := by omega
    subst ei
    rw [List.drop_length] at e
    cases (show R.ok acc (Bn.wipeE τ own) = R.ok acc2 τ2 from e)
    exact .inl ⟨ok.st F H _ _ s.pop, k _ F H (s.unwiped hio)⟩
end
end Bn
namespace Bn
open PySem PySem.Spec PyProof.Rows L2
section
variable {X : Cx} {B : Bx} {W : WX}
theorem StT.under {K : PySem.W.Frag} {F H : Hp} {σ : L2.St} {τ : Env} {vs us : List V} {ds es : List D} {v : V} {d : D} (s : StT K B F H σ τ (v :: (us ++ vs)) (d :: (es ++ ds))) (hl : us.length = es.length) : StT K B F H σ τ (v :: vs) (d :: ds) := by
  obtain ⟨f1, f2, A, ⟨v', r', g1, g2, e, b1, b2, q⟩, w, io⟩ := s
  cases e
  obtain ⟨g3, g4, c1, c2, q2⟩ := b2.split' hl
  exact ⟨f1, fun b => g1 b + g4 b, A, ⟨v, vs, g1, g4, rfl, b1, c2, fun _ => rfl⟩, w.less fun b => by show f1 b + (g1 b + g4 b) ≤ f1 b + f2 b; rw [q, q2]; omega, io⟩
theorem PTs.imp {e : List Expr} {t t' : TT} (h : PTs X e t) (k : ∀ σ H Q, t' σ H Q → t σ H Q) : PTs X e t' := ⟨fun p s σ H Q I q => h.run p s σ H Q I (k _ _ _ q)⟩
def tTrue : MT := fun τ => .ok true τ
theorem ts_nil : PTs X [] (rdT X.K B W tTrue) := PTs.imp pts_nil fun σ H Q ⟨F, τ, vs, ds, s, p⟩ => p F H s
theorem ts_one {c : Expr} {t : MT} (h : PT X c (rdT X.K B W t)) : PTs X [c] (rdT X.K B W t) := pts_one h
theorem impLc {own : List Nat} {it : MA} {g : D → Env → Option Env} {sl : List Nat} {t : MT} {m : ME} (hsl : ∀ j ∈ sl, j ∈ own) (hio : ioFreeL B own) (σ : L2.St) (H : Hp) (Q : VK) (h : rdE X.K B W (eLc own it g t m) σ H Q) : tLc (rdI X.K B W it) (rdG X.K B sl g) (rdT X.K B W0 t) (rdE X.K B W0 m) own σ H Q := by
  obtain ⟨F, τ, vs, ds, s, p⟩ := h
  refine ⟨F, τ, vs, ds, s, post_imp (post_bind p) (fun items τ1 q J us es F' H' hl s' ok => ?_) fun _ _ q => q⟩
  cases e : lcL own g t m items [] (Bn.wipeE τ1 own) with
  | ok acc τ2 =>
    simp only [e] at q
    exact lc_core' ok hsl hio s' e fun v F2 H2 s2 => q v F2 H2 (s2.under hl)
  | _ => simp only [e] at q; exact False.elim q
theorem e_lc {elt tg iter : Expr} {ifs : List Expr} {scope : Scope} {own : List (Str × Nat)} {pos : Pos} {it : MA} {g : D → Env → Option Env} {sl : List Nat} {t : MT} {m : ME} (c : XOk X W) (hN : X.N.Nodup) (hi : PI X tg iter (rdI X.K B W it)) (ok : BlkOk X.N X.env.scope scope own)
    (hg : ∀ (s : Shared) (H : Hp) (C : Addr) (cl : List (Str × Addr)) (fp : List Addr), PG (X.blk s H scope (compEnvC scope cl C X.env) fp) tg (rdG X.K B sl g)) (ht : ∀ (s : Shared) (H : Hp) (C : Addr) (cl : List (Str × Addr)) (fp : List Addr), PTs (X.blk s H scope (compEnvC scope cl C X.env) fp) ifs (rdT X.K B W0 t))
    (he : ∀ (s : Shared) (H : Hp) (C : Addr) (cl : List (Str × Addr)) (fp : List Addr), XOk (X.blk s H scope (compEnvC scope cl C X.env) fp) W0 → PE (X.blk s H scope (compEnvC scope cl C X.env) fp) elt (rdE X.K B W0 m))
    (hsl : ∀ j ∈ sl, j ∈ own.map (·.2) := by decide) (hio : ioFreeL B (own.map (·.2)) := by first | (intro p hp; cases hp; done) | (intro p hp; simp only [List.mem_cons, List.not_mem_nil, or_false] at hp; rcases hp with rfl | rfl <;> simp) | (intro p hp; simp only [List.mem_cons, List.not_mem_nil, or_false] at hp; rcases hp with rfl | rfl | rfl <;> simp) | (intro p hp; simp only [List.mem_cons, List.not_mem_nil, or_false] at hp; subst hp; simp)) (hs : ∀ x, foldedSetIterable iter X.env x = pure x := by intro _; rfl) :
    PE X (.ListComp elt [⟨tg, iter, ifs, 0⟩] scope pos) (rdE X.K B W (eLc (own.map (·.2)) it g t m)) :=
  PE.imp (pe_lc c.calm hN hi ok hg ht (fun s H C cl fp => he s H C cl fp ⟨takes0, PassesOwn.never, c.calm⟩) hs) (impLc hsl hio)
theorem s_setLc {i : Nat} {y : Str} {py : Pos} {elt tg iter : Expr} {ifs : List Expr} {scope : Scope} {own : List (Str × Nat)} {pos spos : Pos} {it : MA} {g : D → Env → Option Env} {sl : List Nat} {t : MT} {m : ME} (c : XOk X W) (hN : X.N.Nodup) (hy : X.N[i]? = some y) (hyl : X.env.scope.names.lookup y = some .local)
    (hsw : swapsWith (.ListComp elt [⟨tg, iter, ifs, 0⟩] scope pos) (some (.Name y py)) spos.line X.env = pure true) (hi : PI X tg iter (rdI X.K B W it)) (ok : BlkOk X.N X.env.scope scope own)
    (hg : ∀ (s : Shared) (H : Hp) (C : Addr) (cl : List (Str × Addr)) (fp : List Addr), PG (X.blk s H scope (compEnvC scope cl C X.env) fp) tg (rdG X.K B sl g)) (ht : ∀ (s : Shared) (H : Hp) (C : Addr) (cl : List (Str × Addr)) (fp : List Addr), PTs (X.blk s H scope (compEnvC scope cl C X.env) fp) ifs (rdT X.K B W0 t))
    (he : ∀ (s : Shared) (H : Hp) (C : Addr) (cl : List (Str × Addr)) (fp : List Addr), XOk (X.blk s H scope (compEnvC scope cl C X.env) fp) W0 → PE (X.blk s H scope (compEnvC scope cl C X.env) fp) elt (rdE X.K B W0 m))
    (hsl : ∀ j ∈ sl, j ∈ own.map (·.2) := by decide) (hio : ioFreeL B (own.map (·.2)) := by first | (intro p hp; cases hp; done) | (intro p hp; simp only [List.mem_cons, List.not_mem_nil, or_false] at hp; rcases hp with rfl | rfl <;> simp) | (intro p hp; simp only [List.mem_cons, List.not_mem_nil, or_false] at hp; rcases hp with rfl | rfl | rfl <;> simp) | (intro p hp; simp only [List.mem_cons, List.not_mem_nil, or_false] at hp; subst hp; simp)) (hio2 : ioFree B i := by first | (intro p hp; cases hp; done) | (intro p hp; simp only [List.mem_cons, List.not_mem_nil, or_false] at hp; rcases hp with rfl | rfl <;> simp) | (intro p hp; simp only [List.mem_cons, List.not_mem_nil, or_false] at hp; rcases hp with rfl | rfl | rfl <;> simp) | (intro p hp; simp only [List.mem_cons, List.not_mem_nil, or_false] at hp; subst hp; simp)) (hs : ∀ x, foldedSetIterable iter X.env x = pure x := by intro _; rfl) :
    PS X (.Assign [.Name y py] (.ListComp elt [⟨tg, iter, ifs, 0⟩] scope pos) spos) (rdS X.K B W (sAsg (eLc (own.map (·.2)) it g t m) (gN i))) :=
  PS.imp (ps_setLc c.calm hN hy hyl hsw hi ok hg ht (fun s H C cl fp => he s H C cl fp ⟨takes0, PassesOwn.never, c.calm⟩) hs) fun D σ H ⟨F, τ, vs, ds, s, p⟩ =>
    impLc hsl hio σ H _ ⟨F, τ, vs, ds, s, post_imp (post_s (σ := σ) p) (fun d τ1 q v F1 H1 s1 => q _ F1 H1 (s1.put' hio2)) fun _ _ q => q⟩
end
def callF (n N : Nat) (b : MS) : List D → CR := fun ds => if ds.length = n then (match b (ds.map some ++ List.replicate (N - n) none) with
  | .nx _ => .ok .non
  | .rt d _ => .ok d
  | .ex c _ => .ex c
  | _ => .bad) else .bad
theorem sl_start {K : PySem.W.Frag} {ca : Str → Addr} {F H : Hp} {k : Nat} : ∀ {ds : List D} {vs : List V}, RepL K ca F ds vs → Sl K ca F H (ds.map some ++ List.replicate k none) (vs.map some ++ List.replicate k none) (fun _ => 0)
  | [], vs, h => by
    cases (show vs = [] from h)
    show Sl K ca F H (List.replicate k none) (List.replicate k none) _
    induction k with
    | zero => exact ⟨rfl, fun _ => rfl⟩
    | succ k ih => exact ⟨none, _, rfl, ih⟩
  | d :: ds, _, ⟨v, r, h1, h2, h3⟩ => by
    subst h1
    exact ⟨v, _, _, _, rfl, h2.o, sl_start h3, fun _ => rfl⟩
section
variable {P : Program} {w : World} {K : PySem.W.Frag} {mg : Str → Option Value} {base : Heap} {ca : Str → Addr}
theorem fn_ok {x qual : Str} {st : Stmt} {f : Addr} {fd : FuncData} {N ps : List Str} {k : Nat} {b : MS} (F : Fun K x qual st f fd) (S : FnScope N ps (defScope st))
    (hb : ∀ (cdv : Value) (A : Around) (outer : List PySem.Env) (s : Shared) (H : Hp) (E : XK) (F0 R : Hp), Room k (A.deeper (envOfC qual (defScope st) s.heap.objs.size f cdv)) →
      XOk (cxOf (L2.CX P w) P w K mg base N qual (defScope st) f cdv A outer s H E) (fun cls d _ H => E cls d H) →
      PSs (cxOf (L2.CX P w) P w K mg base N qual (defScope st) f cdv A outer s H E) (defBody st) (rdS K ⟨ca, F0, R, []⟩ (fun cls d _ H => E cls d H) b)) :
    FnOk P w K mg base (L2.CX P w) (k + 1) f fd ps (spP K ca (callF ps.length N.length b)) := by
  refine F.okX S (fun vs H Q E h => ?_) (fun cdv A outer s H vs Q E hr h => ?_)
  · obtain ⟨F0, ds, _, rl, h⟩ := h
    rw [rl.length]
    by_cases e : ds.length = ps.length
    · exact e
    · unfold callF at h
      rw [if_neg e] at h
      exact h.elim
  · obtain ⟨F0, ds, sm, rl, h⟩ := h
    refine ⟨_, hb cdv A outer s H E F0 H hr ⟨takes_of rfl rfl rfl rfl, passes_of rfl, rfl⟩, ?_⟩
    have hl : ds.length = ps.length := by
      by_cases e : ds.length = ps.length
      · exact e
      · unfold callF at h
        rw [if_neg e] at h
        exact h.elim
    unfold callF at h
    rw [if_pos hl] at h
    have st0 : StT K ⟨ca, F0, H, []⟩ F0 H (L2.start N vs) (ds.map some ++ List.replicate (N.length - ps.length) none) [] [] := by
      refine ⟨fun _ => 0, fun _ => 0, ?_, ⟨rfl, fun _ => rfl⟩, ⟨fun _ => Nat.zero_le _, fun a q => absurd q (Nat.lt_irrefl _), fun a q => absurd q (Nat.lt_irrefl _), sm, Same.refl _, Same.refl _, fun a q => .inl q⟩, fun p hp => by cases hp⟩
      unfold L2.start
      rw [rl.length, hl]
      exact sl_start rl
    refine ⟨F0, _, [], [], st0, ?_⟩
    cases e : b (ds.map some ++ List.replicate (N.length - ps.length) none) with
    | nx τ =>
      rw [e] at h
      intro σ' F' H' s'
      obtain ⟨f1, f2, _, _, w', _⟩ := s'
      exact h .non F' H' (fun _ => 0) w'.s0 w'.sF w'.sR (Rep.o (d := .non) rfl) (fun _ => Nat.zero_le _) (fun a q => absurd q (Nat.lt_irrefl _)) w'.fr
    | rt d τ =>
      rw [e] at h
      intro v σ' F' H' s'
      obtain ⟨f1, f2, _, ⟨_, _, g1, g2, ee, hv, _, q⟩, w', _⟩ := s'
      cases ee
      have le : ∀ a, g1 a ≤ f1 a + f2 a := fun a => by rw [q]; omega
      exact h v F' H' g1 w'.s0 w'.sF w'.sR hv (fun a => Nat.le_trans (le a) (w'.nd a)) (fun a z => ⟨w'.dF a (Nat.lt_of_lt_of_le z (le a)), w'.dR a (Nat.lt_of_lt_of_le z (le a))⟩) w'.fr
    | ex c τ =>
      rw [e] at h
      intro σ' F' H' s'
      obtain ⟨f1, f2, _, _, w', _⟩ := s'
      exact h H' w'.sR
    | bk τ => rw [e] at h; exact h.elim
    | ct τ => rw [e] at h; exact h.elim
    | bad => rw [e] at h; exact h.elim
theorem fo_of {x qual : Str} {st : Stmt} {f : Addr} {fd : FuncData} {ps : List Str} {k : Nat} {g : List D → CR} (F : Fun K x qual st f fd) (hm : mg x = some (.ref f)) (hb : Binds K fd ps []) (h : FnOk P w K mg base (L2.CX P w) k f fd ps (spP K ca g)) : Fo P w K mg base ca k x g := ⟨f, fd, ps, hm, F.kp, hb, h⟩
end
end Bn
namespace Bn
open PySem PySem.Spec PyProof.Rows L2
section
variable {K : PySem.W.Frag}
def gI (k : Int → Int → D) : D → D → Option D
  | .int i, .int j => some (k i j)
  | _, _ => none
def gIC (C : Int → Int → Prop) [∀ i j, Decidable (C i j)] (k : Int → Int → D) : D → D → Option D
  | .int i, .int j => if C i j then some (k i j) else none
  | _, _ => none
theorem opS_I0 {f : Int → Int → V} {k : Int → Int → D} (h : ∀ ca F i j, Rep K ca F (k i j) (f i j)) : OpS K (rI0 f) (gI k) := by
  intro ca F H x y a b d f1 f2 Q sm hx hy e q
  cases a with
  | int i =>
    cases b with
    | int j =>
      cases (show some (k i j) = some d from e)
      exact ⟨i, j, hx.1, hy.1, q _ _ (h ca F i j).o⟩
    | _ => cases e
  | _ => cases e
theorem opS_IC {C : Int → Int → Prop} [∀ i j, Decidable (C i j)] {f : Int → Int → V} {k : Int → Int → D} (h : ∀ ca F i j, Rep K ca F (k i j) (f i j)) : OpS K (rI C f) (gIC C k) := by
  intro ca F H x y a b d f1 f2 Q sm hx hy e q
  cases a with
  | int i =>
    cases b with
    | int j =>
      by_cases c : C i j
      · have e' : (if C i j then some (k i j) else none) = some d := e
        rw [if_pos c] at e'
        cases e'
        exact ⟨i, j, hx.1, hy.1, c, q _ _ (h ca F i j).o⟩
      · have e' : (if C i j then some (k i j) else none) = some d := e
        rw [if_neg c] at e'; cases e'
    | _ => cases e
  | _ => cases e
def gAdd : D → D → Option D := gI fun i j => .int (i + j)
def gSub : D → D → Option D := gI fun i j => .int (i - j)
instance {i j : Int} : Decidable (CMulW i j) := by unfold CMulW; infer_instance
instance {i j : Int} : Decidable (CDivW i j) := by unfold CDivW; infer_instance
instance {i j : Int} : Decidable (CPow i j) := by unfold CPow; infer_instance
def gDiv : D → D → Option D := gIC CDivW fun i j => .int (i / j)
def gMod : D → D → Option D := gIC (fun _ j => 0 < j) fun i j => .int (i % j)
def gPow : D → D → Option D := gIC CPow fun i j => .int (i ^ j.toNat)
def gLt : D → D → Option D := gI fun i j => .bl (decide (i < j))
def gGt : D → D → Option D := gI fun i j => .bl (decide (j < i))
theorem sAdd : OpS K (rI0 fun i j => .int (i + j)) gAdd := opS_I0 fun _ _ _ _ => rfl
theorem sSub : OpS K (rI0 fun i j => .int (i - j)) gSub := opS_I0 fun _ _ _ _ => rfl
theorem sDiv : OpS K (rI CDivW fun i j => .int (i / j)) gDiv := opS_IC fun _ _ _ _ => rfl
theorem sMod : OpS K (rI (fun _ j => 0 < j) fun i j => .int (i % j)) gMod := opS_IC fun _ _ _ _ => rfl
theorem sPow : OpS K (rI CPow fun i j => .int (i ^ j.toNat)) gPow := opS_IC fun _ _ _ _ => rfl
theorem sLt : OpS K (rI0 fun i j => .bl (decide (i < j))) gLt := opS_I0 fun _ _ _ _ => rfl
theorem sGt : OpS K (rI0 fun i j => .bl (decide (j < i))) gGt := opS_I0 fun _ _ _ _ => rfl
def gNeg : D → Option D
  | .int i => some (.int (-i))
  | _ => none
theorem sNeg : UnS K (rU fun i => .int (-i)) gNeg := by
  intro ca F H x a d f1 Q sm hx e q
  cases a with
  | int i =>
    cases (show some (D.int (-i)) = some d from e)
    exact ⟨i, hx.1, q (.int (-i)) _ (Rep.o (d := .int (-i)) rfl)⟩
  | _ => cases e
def gAddS : D → D → Option D
  | .str i, .str j => if i.length + j.length ≤ 1000000 then some (.str (i ++ j)) else none
  | _, _ => none
theorem sAddS : OpS K (fun x y H Q => ∃ i j, x = .str i ∧ y = .str j ∧ i.length + j.length ≤ sizeLine ∧ Q (.str (i ++ j)) H) gAddS := by
  intro ca F H x y a b d f1 f2 Q sm hx hy e q
  cases a with
  | str i =>
    cases b with
    | str j =>
      by_cases c : i.length + j.length ≤ 1000000
      · have e' : (if i.length + j.length ≤ 1000000 then some (D.str (i ++ j)) else none) = some d := e
        rw [if_pos c] at e'
        cases e'
        exact ⟨i, j, hx.1, hy.1, le_sizeLine c, q (.str (i ++ j)) _ (Rep.o (d := .str (i ++ j)) rfl)⟩
      · have e' : (if i.length + j.length ≤ 1000000 then some (D.str (i ++ j)) else none) = some d := e
        rw [if_neg c] at e'; cases e'
    | _ => cases e
  | _ => cases e
mutual
def toP : D → PyData
  | .bl b => .bool b
  | .int i => .int i
  | .str s => .str s
  | .tup xs => .tuple (toPs xs)
  | .lst _ xs => .list (toPs xs)
  | .cst xs => .list (toPs xs)
  | .non => .none
  | .ty _ => .none
  | .val _ => .none
  | .exc _ => .none
  | .tpo xs => .tuple (toPs xs)
  | .dct _ _ _ => .none
  | .obj _ _ _ _ => .none
def toPs : List D → List PyData
  | [] => []
  | x :: xs => toP x :: toPs xs
end
mutual
def hasP : D → Bool
  | .tup xs => hasPs xs
  | .lst _ xs => hasPs xs
  | .cst xs => hasPs xs
  | .ty _ => false
  | .val _ => false
  | .exc _ => false
  | .tpo xs => hasPs xs
  | .dct _ _ _ => false
  | .obj _ _ _ _ => false
  | .bl _ => true | .int _ => true | .str _ => true | .non => true
def hasPs : List D → Bool
  | [] => true
  | x :: xs => hasP x && hasPs xs
end
section
variable {ca : Str → Addr} {F H : Hp}
mutual
theorem Rep.dp (sm : Same F H) : ∀ (d : D) (v : V), hasP d = true → Rep K ca F d v → Dp K H v (toP d)
  | .non, v, _, h => by cases (show v = .non from h); exact .non
  | .bl b, v, _, h => by cases (show v = .bl b from h); exact .bl b
  | .int b, v, _, h => by cases (show v = .int b from h); exact .int b
  | .str b, v, _, h => by cases (show v = .str b from h); exact .str b
  | .tup ds, v, z, h => by
    obtain ⟨a, vs, rfl, h1, h2⟩ := h
    exact .tup (sqT_same sm h1) (RepL.dp sm ds vs z h2)
  | .lst true _, _, _, h => h.elim
  | .lst false ds, v, z, h => by
    obtain ⟨a, vs, rfl, h1, h2⟩ := h
    exact .lst (sqOf (sm _ _ h1)) (RepL.dp sm ds vs z h2)
  | .cst ds, v, z, h => by
    obtain ⟨a, vs, rfl, h1, h2⟩ := h
    exact .lst (sm.seq h1) (RepL.dp sm ds vs z h2)
  | .tpo _, _, _, h => h.elim
theorem RepL.dp (sm : Same F H) : ∀ (ds : List D) (vs : List V), hasPs ds = true → RepL K ca F ds vs → DpAll K H vs (toPs ds)
  | [], vs, _, h => by cases (show vs = [] from h); exact .nil
  | d :: ds, _, z, ⟨v, r, h1, h2, h3⟩ => by
    subst h1
    have z' : (hasP d && hasPs ds) = true := z
    rw [Bool.and_eq_true] at z'
    exact .cons (Rep.dp sm d v z'.1 h2) (RepL.dp sm ds r z'.2 h3)
end
mutual
theorem RepO.dp (sm : Same F H) : ∀ (d : D) (v : V) (f : Ct), hasP d = true → RepO K ca F H d v f → Dp K H v (toP d)
  | .lst true ds, v, f, z, h => by
    obtain ⟨a, vs, g, rfl, h1, h2, _⟩ := h
    exact .lst (sqOf h1) (RepOs.dp sm ds vs g z h2)
  | .lst false ds, v, f, z, h => Rep.dp sm _ _ z h.1
  | .non, v, f, z, h => Rep.dp sm _ _ z h.1
  | .bl _, v, f, z, h => Rep.dp sm _ _ z h.1
  | .int _, v, f, z, h => Rep.dp sm _ _ z h.1
  | .str _, v, f, z, h => Rep.dp sm _ _ z h.1
  | .tup _, v, f, z, h => Rep.dp sm _ _ z h.1
  | .cst _, v, f, z, h => Rep.dp sm _ _ z h.1
  | .tpo ds, v, f, z, h => by
    obtain ⟨a, vs, rfl, h1, h2⟩ := h
    exact .tup (sqT_same sm h1) (RepOs.dp sm ds vs f z h2)
theorem RepOs.dp (sm : Same F H) : ∀ (ds : List D) (vs : List V) (f : Ct), hasPs ds = true → RepOs K ca F H ds vs f → DpAll K H vs (toPs ds)
  | [], vs, _, _, h => by cases (show vs = [] from h.1); exact .nil
  | d :: ds, _, f, z, ⟨v, r, f1, f2, h1, h2, h3, _⟩ => by
    subst h1
    have z' : (hasP d && hasPs ds) = true := z
    rw [Bool.and_eq_true] at z'
    exact .cons (RepO.dp sm d v f1 z'.1 h2) (RepOs.dp sm ds r f2 z'.2 h3)
end
end
def okP (d : D) : Bool := hasP d && SeqAt.shaped (toP d)
def eqP (a b : D) : Bool := PyData.eqv (toP a) (toP b)
def gEq (a b : D) : Option D := if okP a = true ∧ okP b = true then some (.bl (eqP a b)) else none
def gNe (a b : D) : Option D := if okP a = true ∧ okP b = true then some (.bl (!eqP a b)) else none
theorem sEq : OpS K (rEqD K) gEq := by
  intro ca F H x y a b d f1 f2 Q sm hx hy e q
  unfold gEq at e
  by_cases c : okP a = true ∧ okP b = true
  · rw [if_pos c] at e
    cases e
    have c1 := c.1
    have c2 := c.2
    unfold okP at c1 c2
    rw [Bool.and_eq_true] at c1 c2
    exact ⟨_, _, RepO.dp sm a x f1 c1.1 hx, RepO.dp sm b y f2 c2.1 hy, c1.2, c2.2, q (.bl _) _ (Rep.o (d := .bl _) rfl)⟩
  · rw [if_neg c] at e; cases e
theorem sNe : OpS K (rNeD K) gNe := by
  intro ca F H x y a b d f1 f2 Q sm hx hy e q
  unfold gNe at e
  by_cases c : okP a = true ∧ okP b = true
  · rw [if_pos c] at e
    cases e
    have c1 := c.1
    have c2 := c.2
    unfold okP at c1 c2
    rw [Bool.and_eq_true] at c1 c2
    exact ⟨_, _, RepO.dp sm a x f1 c1.1 hx, RepO.dp sm b y f2 c2.1 hy, c1.2, c2.2, q (.bl _) _ (Rep.o (d := .bl _) rfl)⟩
  · rw [if_neg c] at e; cases e
def itemsD : D → Option (List D)
  | .lst _ xs => some xs
  | .cst xs => some xs
  | .tup xs => some xs
  | .tpo xs => some xs
  | _ => none
def gIx (a b : D) : Option D := match b with
  | .int i => (match a with
    | .str z => if z.length ≤ 1000000 then (atI z.cps.toList i).map fun c => .str ⟨#[c]⟩ else none
    | .lst _ xs => atI xs i
    | .cst xs => atI xs i
    | .tup xs => atI xs i
    | .tpo xs => atI xs i
    | _ => none)
  | _ => none
theorem atI_get {α β : Type} {xs : List α} {ys : List β} {i : Int} {y : β} (hl : xs.length = ys.length) (h : atI ys i = some y) : ∃ (j : Nat) (x : α), ys[j]? = some y ∧ xs[j]? = some x ∧ atI xs i = some x := by
  unfold atI at h ⊢
  obtain ⟨j, e, h⟩ := bind_some h
  have hj : j < ys.length := (List.getElem?_eq_some_iff.mp h).1
  obtain ⟨x, hx⟩ : ∃ x, xs[j]? = some x := ⟨xs[j]'(by omega), by simp [hl, hj]⟩
  refine ⟨j, x, h, hx, ?_⟩
  rw [hl, e]
  exact hx
theorem seq_of {ca : Str → Addr} {F H : Hp} {a : D} {x : V} {f : Ct} {xs : List D} (sm : Same F H) (h : RepO K ca F H a x f) (e : itemsD a = some xs) : ∃ p vs g, x = .ref p ∧ (SqL K H p vs ∨ SqT K H p vs) ∧ RepOs K ca F H xs vs g := by
  cases a with
  | tup ds =>
    cases (show some ds = some xs from e)
    obtain ⟨⟨a, vs, rfl, h1, h2⟩, _⟩ := h
    exact ⟨a, vs, _, rfl, .inr (sqT_same sm h1), h2.os⟩
  | tpo ds =>
    cases (show some ds = some xs from e)
    obtain ⟨a, vs, rfl, h1, h2⟩ := h
    exact ⟨a, vs, _, rfl, .inr (sqT_same sm h1), h2⟩
  | cst ds =>
    cases (show some ds = some xs from e)
    obtain ⟨⟨a, vs, rfl, h1, h2⟩, _⟩ := h
    exact ⟨a, vs, _, rfl, .inl (sm.seq h1), h2.os⟩
  | lst m ds =>
    cases (show some ds = some xs from e)
    cases m with
    | true =>
      obtain ⟨a, vs, g, rfl, h1, h2, _⟩ := h
      exact ⟨a, vs, g, rfl, .inl (sqOf h1), h2⟩
    | false =>
      obtain ⟨⟨a, vs, rfl, h1, h2⟩, _⟩ := h
      exact ⟨a, vs, _, rfl, .inl (sqOf (sm _ _ h1)), h2.os⟩
  | _ => cases e
theorem gIx_seq {a d : D} {i : Int} (e : gIx a (.int i) = some d) : (∃ xs, itemsD a = some xs ∧ atI xs i = some d) ∨ ∃ z c, a = .str z ∧ z.length ≤ 1000000 ∧ atI z.cps.toList i = some c ∧ d = .str ⟨#[c]⟩ := by
  cases a with
  | tup xs => exact .inl ⟨xs, rfl, e⟩
  | cst xs => exact .inl ⟨xs, rfl, e⟩
  | lst m xs => exact .inl ⟨xs, rfl, e⟩
  | tpo xs => exact .inl ⟨xs, rfl, e⟩
  | str z =>
    have e' : (if z.length ≤ 1000000 then (atI z.cps.toList i).map fun c => D.str ⟨#[c]⟩ else none) = some d := e
    by_cases c : z.length ≤ 1000000
    · rw [if_pos c] at e'
      cases e2 : atI z.cps.toList i with
      | none => rw [e2] at e'; cases e'
      | some c' =>
        rw [e2] at e'
        exact .inr ⟨z, c', rfl, c, e2, (Option.some.inj e').symm⟩
    · rw [if_neg c] at e'; cases e'
  | _ => cases e
theorem sIx : OpS K (rIx K) gIx := by
  intro ca F H x y a b d f1 f2 Q sm hx hy e q
  cases b with
  | int i =>
    rcases gIx_seq e with ⟨xs, e1, e2⟩ | ⟨z, c, rfl, hz, e2, rfl⟩
    · obtain ⟨p, vs, g, rfl, h1, h2⟩ := seq_of sm hx e1
      obtain ⟨j, v, g1, g2, g3⟩ := atI_get h2.length e2
      obtain ⟨v', g', k1, k2⟩ := h2.get g1
      rw [g2] at k1; cases k1
      rcases h1 with h1 | h1
      · exact .inl ⟨p, vs, i, v, rfl, hy.1, h1, g3, q v _ k2⟩
      · exact .inr (.inl ⟨p, vs, i, v, rfl, hy.1, h1, g3, q v _ k2⟩)
    · exact .inr (.inr ⟨z, i, c, hx.1, hy.1, le_sizeLine hz, e2, q (.str ⟨#[c]⟩) _ (Rep.o (d := .str _) rfl)⟩)
  | _ => cases e
def gLen : List D → Option D
  | [.str z] => if z.length ≤ 1000000 then some (.int (z.length : Nat)) else none
  | [a] => (itemsD a).map fun xs => .int (xs.length : Nat)
  | _ => none
theorem repOs1 {ca : Str → Addr} {F H : Hp} {a : D} {xs : List V} {f : Ct} (h : RepOs K ca F H [a] xs f) : ∃ x g, xs = [x] ∧ RepO K ca F H a x g := by
  obtain ⟨x, r, f1, f2, rfl, h1, ⟨rfl, _⟩, _⟩ := h
  exact ⟨x, f1, rfl, h1⟩
theorem repOs2 {ca : Str → Addr} {F H : Hp} {a b : D} {xs : List V} {f : Ct} (h : RepOs K ca F H [a, b] xs f) : ∃ x y g g', xs = [x, y] ∧ RepO K ca F H a x g ∧ RepO K ca F H b y g' := by
  obtain ⟨x, r, f1, f2, rfl, h1, h2, _⟩ := h
  obtain ⟨y, g', rfl, h3⟩ := repOs1 h2
  exact ⟨x, y, f1, g', rfl, h1, h3⟩
theorem sLen : CallS K (fun xs H Q => ∃ x n, xs = [x] ∧ LenV K x H n ∧ Q (.int n) H) gLen := by
  intro ca F H xs as d f1 Q sm hx e q
  unfold gLen at e
  split at e
  · rename_i z
    obtain ⟨x, g, rfl, h⟩ := repOs1 hx
    cases (show x = .str z from h.1)
    by_cases c : z.length ≤ 1000000
    · rw [if_pos c] at e; cases e
      exact ⟨_, z.length, rfl, ⟨le_sizeLine c, rfl⟩, q (.int _) _ (Rep.o (d := .int _) rfl)⟩
    · rw [if_neg c] at e; cases e
  · rename_i a _
    obtain ⟨x, g, rfl, h⟩ := repOs1 hx
    cases ei : itemsD a with
    | none => rw [ei] at e; cases e
    | some ys =>
      rw [ei] at e
      cases (show some (D.int (ys.length : Nat)) = some d from e)
      obtain ⟨p, vs, g, rfl, h1, h2⟩ := seq_of sm h ei
      refine ⟨_, ys.length, rfl, ?_, q (.int _) _ (Rep.o (d := .int _) rfl)⟩
      rcases h1 with h1 | h1
      · exact .inl ⟨vs, h1, h2.length.symm⟩
      · exact .inr ⟨vs, h1, h2.length.symm⟩
  · cases e
def gAbs : List D → Option D
  | [.int i] => some (.int (if i < 0 then -i else i))
  | _ => none
def gMax2 : List D → Option D
  | [.int i, .int j] => some (.int (if j > i then j else i))
  | _ => none
theorem sAbs : CallS K (fun xs H Q => ∃ i, xs = [.int i] ∧ Q (.int (if i < 0 then -i else i)) H) gAbs := by
  intro ca F H xs as d f1 Q sm hx e q
  unfold gAbs at e
  split at e
  · rename_i i
    cases e
    obtain ⟨x, g, rfl, h⟩ := repOs1 hx
    cases (show x = .int i from h.1)
    exact ⟨i, rfl, q (.int _) _ (Rep.o (d := .int _) rfl)⟩
  · cases e
theorem sMax2 : CallS K (fun xs H Q => ∃ i j, xs = [.int i, .int j] ∧ Q (.int (if j > i then j else i)) H) gMax2 := by
  intro ca F H xs as d f1 Q sm hx e q
  unfold gMax2 at e
  split at e
  · rename_i i j
    cases e
    obtain ⟨x, y, g, g', rfl, h, h'⟩ := repOs2 hx
    cases (show x = .int i from h.1)
    cases (show y = .int j from h'.1)
    exact ⟨i, j, rfl, q (.int _) _ (Rep.o (d := .int _) rfl)⟩
  · cases e
def lstD : D → Option (List D)
  | .lst _ xs => some xs
  | .cst xs => some xs
  | _ => none
theorem lst_of {ca : Str → Addr} {F H : Hp} {a : D} {x : V} {f : Ct} {xs : List D} (sm : Same F H) (h : RepO K ca F H a x f) (e : lstD a = some xs) : ∃ p vs g, x = .ref p ∧ SqL K H p vs ∧ RepOs K ca F H xs vs g := by
  cases a with
  | cst ds =>
    cases (show some ds = some xs from e)
    obtain ⟨⟨a, vs, rfl, h1, h2⟩, _⟩ := h
    exact ⟨a, vs, _, rfl, sm.seq h1, h2.os⟩
  | lst m ds =>
    cases (show some ds = some xs from e)
    cases m with
    | true =>
      obtain ⟨a, vs, g, rfl, h1, h2, _⟩ := h
      exact ⟨a, vs, g, rfl, sqOf h1, h2⟩
    | false =>
      obtain ⟨⟨a, vs, rfl, h1, h2⟩, _⟩ := h
      exact ⟨a, vs, _, rfl, sqOf (sm _ _ h1), h2.os⟩
  | _ => cases e
def tyOfD : D → Option String
  | .non => none | .bl _ => some "bool" | .int _ => some "int" | .str _ => some "str"
  | .tup _ => some "tuple" | .lst _ _ => some "list" | .cst _ => some "list" | .ty _ => none | .obj _ _ _ _ => none | .val _ => none | .exc _ => none | .tpo _ => some "tuple" | .dct _ _ _ => none
def gIsi : List D → Option D
  | [a, .ty u] => match tyOfD a with
    | some t => if t ∈ ["bool", "int", "str", "tuple", "list"] ∧ u ∈ ["bool", "int", "str", "tuple", "list"] then some (.bl (decide (t = u) || (decide (t = "bool") && decide (u = "int")))) else none
    | none => none
  | _ => none
theorem kitOne_isi {K : PySem.W.Frag} {t u : String} (h : t ∈ ["bool", "int", "str", "tuple", "list"]) (k : u ∈ ["bool", "int", "str", "tuple", "list"]) : PySem.W.kitOne K (.type t) (.type u) = some (decide (t = u) || (decide (t = "bool") && decide (u = "int"))) := by
  simp only [List.mem_cons, List.not_mem_nil, or_false] at h k
  rcases h with rfl | rfl | rfl | rfl | rfl <;> rcases k with rfl | rfl | rfl | rfl | rfl <;> exact kit_ty (by decide +kernel)
theorem ty_of {ca : Str → Addr} {F H : Hp} {a : D} {x : V} {f : Ct} {t : String} (sm : Same F H) (h : RepO K ca F H a x f) (e : tyOfD a = some t) : TyX K H x (.type t) := by
  have L : ∀ {p vs}, SqL K H p vs → TyX K H (.ref p) (.type "list") := fun {p vs} s => by
    rcases s with (s | ⟨o, s⟩) | ⟨o, its, n, k1, k2, _⟩
    · exact .base (.lst s)
    · exact .base (.frz s)
    · exact .kList k1 k2
  have T : ∀ {p vs}, SqT K H p vs → TyX K H (.ref p) (.type "tuple") := fun {p vs} s => by
    rcases s with (s | ⟨o, s⟩) | ⟨o, its, n, k1, k2, _⟩
    · exact .base (.tup s)
    · exact .fTuple s
    · exact .kTuple k1 k2
  cases a with
  | bl b => cases (show x = .bl b from h.1); cases (show some "bool" = some t from e); exact .base (.bl b)
  | int b => cases (show x = .int b from h.1); cases (show some "int" = some t from e); exact .base (.int b)
  | str b => cases (show x = .str b from h.1); cases (show some "str" = some t from e); exact .base (.str b)
  | tup ds =>
    cases (show some "tuple" = some t from e)
    obtain ⟨⟨a, vs, rfl, h1, h2⟩, _⟩ := h
    exact T (sqT_same sm h1)
  | cst ds =>
    cases (show some "list" = some t from e)
    obtain ⟨p, vs, g, rfl, h1, h2⟩ := lst_of sm h rfl
    exact L h1
  | lst m ds =>
    cases (show some "list" = some t from e)
    obtain ⟨p, vs, g, rfl, h1, h2⟩ := lst_of sm h rfl
    exact L h1
  | tpo ds =>
    cases (show some "tuple" = some t from e)
    obtain ⟨a, vs, rfl, h1, h2⟩ := h
    exact T (sqT_same sm h1)
  | _ => cases e
theorem sIsi : CallS K (rIsi K) gIsi := by
  intro ca F H xs as d f1 Q sm hx e q
  unfold gIsi at e
  split at e
  · rename_i a u
    obtain ⟨x, y, g, g', rfl, h, h'⟩ := repOs2 hx
    cases (show y = .ty u from h'.1)
    split at e
    · rename_i t et
      by_cases c : t ∈ ["bool", "int", "str", "tuple", "list"] ∧ u ∈ ["bool", "int", "str", "tuple", "list"]
      · rw [if_pos c] at e
        cases e
        exact ⟨x, .ty u, _, _, _, rfl, .ty u, ty_of sm h et, kitOne_isi c.1 c.2, q (.bl _) _ (Rep.o (d := .bl _) rfl)⟩
      · rw [if_neg c] at e; cases e
    · cases e
  · cases e
def flatD : D → Bool
  | .non => true | .bl _ => true | .int _ => true | .str _ => true | _ => false
def toV : D → V
  | .non => .non | .bl b => .bl b | .int i => .int i | .str s => .str s | _ => .non
theorem flat_of {ca : Str → Addr} {F H : Hp} {a : D} {x : V} {f : Ct} (h : RepO K ca F H a x f) (e : flatD a = true) : x = toV a ∧ flatV x = true := by
  cases a with
  | non => cases (show x = .non from h.1); exact ⟨rfl, rfl⟩
  | bl b => cases (show x = .bl b from h.1); exact ⟨rfl, rfl⟩
  | int b => cases (show x = .int b from h.1); exact ⟨rfl, rfl⟩
  | str b => cases (show x = .str b from h.1); exact ⟨rfl, rfl⟩
  | _ => cases e
theorem flats_of {ca : Str → Addr} {F H : Hp} : ∀ {ds : List D} {vs : List V} {f : Ct}, RepOs K ca F H ds vs f → ds.all flatD = true → vs = ds.map toV ∧ vs.all flatV = true
  | [], vs, f, h, e => by cases (show vs = [] from h.1); exact ⟨rfl, rfl⟩
  | d :: ds, vs, f, ⟨v, r, f1, f2, h1, h2, h3, _⟩, e => by
    rw [List.all_cons, Bool.and_eq_true] at e
    obtain ⟨k1, k2⟩ := flat_of h2 e.1
    obtain ⟨k3, k4⟩ := flats_of h3 e.2
    subst h1
    refine ⟨by rw [List.map_cons, ← k1, ← k3], ?_⟩
    rw [List.all_cons, k2, k4]; rfl
def gIn (neg : Bool) (a b : D) : Option D := match itemsD b with
  | some xs => if flatD a = true ∧ xs.all flatD = true then some (.bl (if neg then !inV (toV a) (xs.map toV) else inV (toV a) (xs.map toV))) else none
  | none => none
theorem sIn {neg : Bool} : OpS K (rIn K neg) (gIn neg) := by
  intro ca F H x y a b d f1 f2 Q sm hx hy e q
  unfold gIn at e
  cases ei : itemsD b with
  | none => rw [ei] at e; cases e
  | some xs =>
    rw [ei] at e
    by_cases c : flatD a = true ∧ xs.all flatD = true
    · simp only [c, and_self, if_true] at e
      cases e
      obtain ⟨p, vs, g, rfl, h1, h2⟩ := seq_of sm hy ei
      obtain ⟨k1, k2⟩ := flat_of hx c.1
      obtain ⟨k3, k4⟩ := flats_of h2 c.2
      refine ⟨p, vs, rfl, h1, k2, k4, ?_⟩
      rw [k1, k3]
      exact q (.bl _) _ (Rep.o (d := .bl _) rfl)
    · simp only [c, if_false] at e; cases e
def gInS (neg : Bool) (a b : D) : Option D := match a, b with
  | .str c, .str z => match c.cps.toList with
    | [k] => some (.bl (if neg then !decide (k ∈ z.cps.toList) else decide (k ∈ z.cps.toList)))
    | _ => none
  | _, _ => none
theorem str_one {c : Str} {k : Nat} (h : c.cps.toList = [k]) : c = ⟨#[k]⟩ := by
  cases c with
  | mk cps =>
    have : cps = #[k] := by
      apply Array.toList_inj.mp
      exact h
    rw [this]
theorem sNotInS : OpS K (fun x y H Q => ∃ (c : Nat) (z : Str), x = .str ⟨#[c]⟩ ∧ y = .str z ∧ Q (.bl (!decide (c ∈ z.cps.toList))) H) (gInS true) := by
  intro ca F H x y a b d f1 f2 Q sm hx hy e q
  unfold gInS at e
  split at e
  · rename_i c z
    split at e
    · rename_i k h
      cases e
      exact ⟨k, z, by rw [(show x = .str c from hx.1), str_one h], hy.1, q (.bl _) _ (Rep.o (d := .bl _) rfl)⟩
    · cases e
  · cases e
end
end Bn
namespace Bn
open PySem PySem.Spec PyProof.Rows L2
section
variable {X : Cx} {B : Bx} {W : WX}
def rdP (K : PySem.W.Frag) (B : Bx) (W : WX) (p : Env → R (Option Int)) : TO := fun σ H Q => ∃ F τ vs ds, StT K B F H σ τ vs ds ∧ post (fun o τ' => ∀ F' H', StT K B F' H' σ τ' vs ds → Q o H') (exW K B W σ vs ds) (p τ)
theorem PO.imp {e : Option Expr} {t t' : TO} (h : PO X e t) (k : ∀ σ H Q, t' σ H Q → t σ H Q) : PO X e t' := ⟨fun p s σ H Q I q => h.run p s σ H Q I (k _ _ _ q)⟩
def pNone : Env → R (Option Int) := fun τ => .ok none τ
def pSome (m : ME) : Env → R (Option Int) := fun τ => (m τ).bind fun d τ1 => match d with
  | .int i => .ok (some i) τ1
  | _ => .bad
theorem pe_none : PO X none (rdP X.K B W pNone) := PO.imp po_none fun σ H Q ⟨F, τ, vs, ds, s, k⟩ => k F H s
theorem pe_some {e : Expr} {m : ME} (h : PE X e (rdE X.K B W m)) : PO X (some e) (rdP X.K B W (pSome m)) := PO.imp (po_some h) fun σ H Q ⟨F, τ, vs, ds, s, k⟩ => by
  refine ⟨F, τ, vs, ds, s, post_imp (post_bind k) (fun d τ1 q v F1 H1 s1 => ?_) fun _ _ q => q⟩
  cases d with
  | int i => exact ⟨i, s1.topF rfl, q F1 H1 s1.pop⟩
  | _ => exact False.elim q
def cutL {α : Type} (xs : List α) (lo hi : Option Int) : List α := (xs.drop (HT.sIx xs.length 0 lo)).take (HT.sIx xs.length xs.length hi - HT.sIx xs.length 0 lo)
theorem RepL.drop {K : PySem.W.Frag} {ca : Str → Addr} {F : Hp} : ∀ {ds : List D} {vs : List V} (n : Nat), RepL K ca F ds vs → RepL K ca F (ds.drop n) (vs.drop n)
  | [], vs, n, h => by cases (show vs = [] from h); simp; exact rfl
  | d :: ds, vs, 0, h => h
  | d :: ds, _, n + 1, ⟨v, r, h1, h2, h3⟩ => by subst h1; exact h3.drop n
theorem RepL.take {K : PySem.W.Frag} {ca : Str → Addr} {F : Hp} : ∀ {ds : List D} {vs : List V} (n : Nat), RepL K ca F ds vs → RepL K ca F (ds.take n) (vs.take n)
  | [], vs, n, h => by cases (show vs = [] from h); simp; exact rfl
  | d :: ds, vs, 0, h => rfl
  | d :: ds, _, n + 1, ⟨v, r, h1, h2, h3⟩ => by subst h1; exact ⟨v, r.take n, rfl, h2, h3.take n⟩
theorem RepL.cut {K : PySem.W.Frag} {ca : Str → Addr} {F : Hp} {ds : List D} {vs : List V} (h : RepL K ca F ds vs) (lo hi : Option Int) : RepL K ca F (cutL ds lo hi) (cutV vs lo hi) := by
  unfold cutL cutV
  rw [h.length]
  exact (h.drop _).take _
def slR (d : D) (p r : Env → R (Option Int)) (f : D → Option Int → Option Int → Option D) (τ : Env) : R D := (p τ).bind fun lo τ1 => (r τ1).bind fun hi τ2 => match f d lo hi with
  | some x => .ok x τ2
  | none => .bad
def cutLd (d : D) (lo hi : Option Int) : Option D := match d with
  | .lst _ es => some (.lst true (cutL es lo hi))
  | .cst es => some (.lst true (cutL es lo hi))
  | _ => none
def cutSd (d : D) (lo hi : Option Int) : Option D := match d with
  | .str z => if z.length ≤ 1000000 then some (.str (cutS z lo hi)) else none
  | _ => none
def eSlice (f : D → Option Int → Option Int → Option D) (m : ME) (p r : Env → R (Option Int)) : ME := fun τ => (m τ).bind fun d τ1 => slR (freeze d) p r f τ1
theorem e_slice {e : Expr} {lo hi : Option Expr} {p2 pos : Pos} {m : ME} {p r : Env → R (Option Int)} {rd : V → Option Int → Option Int → Hp → VK → Prop} {f : D → Option Int → Option Int → Option D} (hr : SlR X rd)
    (hf : ∀ {F H σ τ v vs d ds l h x Q}, isFz d = true → f d l h = some x → StT X.K B F H σ τ (v :: vs) (d :: ds) → (∀ u F' H', StT X.K B F' H' σ τ (u :: vs) (x :: ds) → Q u H') → rd v l h H Q)
    (he : PE X e (rdE X.K B W m)) (hl : PO X lo (rdP X.K B W p)) (hu : PO X hi (rdP X.K B W r)) : PE X (.Subscript e (.Slice lo hi none p2) pos) (rdE X.K B W (eSlice f m p r)) :=
  PE.imp (pe_slice hr he hl hu) fun σ H Q ⟨F, τ, vs, ds, s, k⟩ => by
    refine ⟨F, τ, vs, ds, s, post_imp (post_bind k) (fun d τ1 q v F1 H1 s1 => ?_) fun _ _ q => q⟩
    obtain ⟨F2, s2⟩ := s1.freeze1
    refine ⟨F2, τ1, _, _, s2, post_imp (post_bind q) (fun l τ2 q F3 H3 s3 => ?_) fun c τ2 q F3 H3 s3 => q F3 H3 s3.pop⟩
    refine ⟨F3, τ2, _, _, s3, post_imp (post_bind q) (fun h τ3 q F4 H4 s4 => ?_) fun c τ2 q F3 H3 s3 => q F3 H3 s3.pop⟩
    cases ef : f (freeze d) l h with
    | none => rw [ef] at q; exact False.elim q
    | some x =>
      rw [ef] at q
      exact hf (freeze_fz d) ef s4 q
theorem e_sliceL {e : Expr} {lo hi : Option Expr} {p2 pos : Pos} {m : ME} {p r : Env → R (Option Int)} (he : PE X e (rdE X.K B W m)) (hl : PO X lo (rdP X.K B W p)) (hu : PO X hi (rdP X.K B W r)) : PE X (.Subscript e (.Slice lo hi none p2) pos) (rdE X.K B W (eSlice cutLd m p r)) :=
  e_slice sl_list (fun {F H σ τ v vs d ds l h x Q} z e s k => by
    cases d with
    | lst b es =>
      cases b with
      | true => cases z
      | false =>
        cases (show some (D.lst true (cutL es l h)) = some x from e)
        obtain ⟨a, us, ev, h1, h2⟩ := s.topF rfl
        subst ev
        exact ⟨a, us, rfl, sqOf (s.same _ _ h1), fun np hnp => k _ _ _ (((s.pop).pushL (h2.cut l h)).newLst (h2.cut l h).length hnp)⟩
    | cst es =>
      cases (show some (D.lst true (cutL es l h)) = some x from e)
      obtain ⟨a, us, ev, h1, h2⟩ := s.topF rfl
      subst ev
      exact ⟨a, us, rfl, s.same.seq h1, fun np hnp => k _ _ _ (((s.pop).pushL (h2.cut l h)).newLst (h2.cut l h).length hnp)⟩
    | _ => cases e) he hl hu
theorem e_sliceS {e : Expr} {lo hi : Option Expr} {p2 pos : Pos} {m : ME} {p r : Env → R (Option Int)} (he : PE X e (rdE X.K B W m)) (hl : PO X lo (rdP X.K B W p)) (hu : PO X hi (rdP X.K B W r)) : PE X (.Subscript e (.Slice lo hi none p2) pos) (rdE X.K B W (eSlice cutSd m p r)) :=
  e_slice sl_str (fun {F H σ τ v vs d ds l h x Q} z e s k => by
    cases d with
    | str zz =>
      by_cases hz : zz.length ≤ 1000000
      · have e' : (if zz.length ≤ 1000000 then some (D.str (cutS zz l h)) else none) = some x := e
        rw [if_pos hz] at e'
        cases e'
        exact ⟨zz, s.topF rfl, le_sizeLine hz, k _ _ _ (s.pop.push (d := .str _) rfl)⟩
      · have e' : (if zz.length ≤ 1000000 then some (D.str (cutS zz l h)) else none) = some x := e
        rw [if_neg hz] at e'; cases e'
    | _ => cases e) he hl hu
def strsOf : List D → Option (List Str)
  | [] => some []
  | .str i :: r => (strsOf r).map (i :: ·)
  | _ => none
theorem strs_map : ∀ ns : List Str, strsOf (ns.map D.str) = some ns
  | [] => rfl
  | i :: r => by show (strsOf (r.map D.str)).map (i :: ·) = _; rw [strs_map r]; rfl
theorem repOs_strs {K : PySem.W.Frag} {ca : Str → Addr} {F H : Hp} : ∀ {ds : List D} {vs : List V} {f : Ct} {ns : List Str}, RepOs K ca F H ds vs f → strsOf ds = some ns → vs = ns.map V.str
  | [], vs, f, ns, h, e => by
    cases (show some [] = some ns from e)
    exact h.1
  | d :: r, vs, f, ns, h, e => by
    obtain ⟨v, r', f1, f2, h1, h2, h3, _⟩ := h
    cases d with
    | str i =>
      have e' : (strsOf r).map (i :: ·) = some ns := e
      cases e2 : strsOf r with
      | none => rw [e2] at e'; cases e'
      | some ms =>
        rw [e2] at e'
        cases (show some (i :: ms) = some ns from e')
        rw [h1, repOs_strs h3 e2, (show v = .str i from h2.1)]
        rfl
    | _ => cases e
def eJoin (a b : ME) : ME := fun τ => (a τ).bind fun x τ1 => match x with
  | .str z => (b τ1).bind fun y τ2 => (match (itemsD y).bind strsOf with
    | some ys => if (ys.map (·.length)).sum + ys.length * z.length ≤ 1000000 then .ok (.str (Txt.join z ys)) τ2 else .bad
    | none => .bad)
  | _ => .bad
theorem e_join {o e : Expr} {apos pos : Pos} {a b : ME} (ho : PE X o (rdE X.K B W a)) (he : PE X e (rdE X.K B W b)) (hs : starEach [e] X.env = [(false, eval e X.env)] := by rfl) (hbase : attributeBase o "join" X.env (eval o X.env) = eval o X.env := by rfl) (hline : (apos.endLine == pos.line) = true := by rfl) :
    PE X (.Call (.Attribute o "join" apos) [e] [] pos) (rdE X.K B W (eJoin a b)) := PE.imp (pe_join ho he hs hbase hline) fun σ H Q ⟨F, τ, vs, ds, s, k⟩ => by
  refine ⟨F, τ, vs, ds, s, post_imp (post_bind k) (fun d τ1 q v F1 H1 s1 => ?_) fun _ _ q => q⟩
  cases d with
  | str z =>
    refine ⟨⟨z, s1.topF rfl⟩, F1, τ1, _, _, s1, post_imp (post_bind q) (fun d τ2 q w F2 H2 s2 => ?_) fun c τ2 q F2 H2 s2 => q F2 H2 s2.pop⟩
    split at q
    · rename_i ys ey
      obtain ⟨es, e1, e2⟩ := bind_some ey
      obtain ⟨f, hw⟩ := s2.top
      obtain ⟨p, us, g, rfl, h1, h2⟩ := seq_of s2.same hw e1
      by_cases hz : (ys.map (·.length)).sum + ys.length * z.length ≤ 1000000
      · rw [if_pos hz] at q
        refine ⟨z, p, ys, s1.topF rfl, rfl, by rw [← repOs_strs h2 e2]; exact h1, by omega, q _ _ _ (s2.pop.pop.push (d := .str _) rfl)⟩
      · rw [if_neg hz] at q; exact False.elim q
    · exact False.elim q
  | _ => exact False.elim q
structure Kc (K : PySem.W.Frag) (mg : Str → Option Value) (x : Str) (d : D) : Prop where
  ex : ∃ v u, mg x = some u ∧ RelV v u ∧ ∀ ca F, Rep K ca F d v
theorem z_k {x : Str} {d : D} {pos : Pos} (k : Kc X.K X.mg x d) (hg : Gl X x) (hd : (x == ("__debug__" : Str)) = false := by decide) : PE X (.Name x pos) (rdZ X.K B (zC d)) := by
  obtain ⟨v, u, h1, h2, h3⟩ := k.ex
  exact z_c (pe_glob hg h1 h2 hd) fun F => h3 _ F
theorem kc_str {K : PySem.W.Frag} {mg : Str → Option Value} {x s : Str} {t : Tok} (h : mg x = some (.str s t)) : Kc K mg x (.str s) := ⟨.str s, _, h, ⟨t, rfl⟩, fun _ _ => rfl⟩
theorem kc_int {K : PySem.W.Frag} {mg : Str → Option Value} {x : Str} {s : Int} {t : Tok} (h : mg x = some (.int s t)) : Kc K mg x (.int s) := ⟨.int s, _, h, ⟨t, rfl⟩, fun _ _ => rfl⟩
theorem repL_strs {K : PySem.W.Frag} {ca : Str → Addr} {F : Hp} : ∀ ss : List Str, RepL K ca F (ss.map D.str) (ss.map V.str)
  | [] => rfl
  | s :: r => ⟨.str s, r.map V.str, rfl, rfl, repL_strs r⟩
theorem kc_tupS {K : PySem.W.Frag} {mg : Str → Option Value} {x : Str} {a : Addr} {ss : List Str} (h : mg x = some (.ref a)) (hs : ∀ H, SqT K H a (ss.map V.str)) : Kc K mg x (.tup (ss.map D.str)) := ⟨.ref a, _, h, rfl, fun ca F => ⟨a, _, rfl, hs F, repL_strs ss⟩⟩
end
end Bn
namespace Bn
open PySem PySem.Spec PyProof.Rows L2
abbrev Bx.withE (B : Bx) (i : Nat) (a : Addr) : Bx := { B with io := (i, .ref a) :: B.io }
theorem ioE {B : Bx} {i j : Nat} {a : Addr} (h : i ≠ j) (k : ioFree B j := by intro p hp; cases hp) : ioFree (B.withE i a) j := fun p hp => by
  rcases List.mem_cons.mp hp with rfl | hp
  · exact h
  · exact k p hp
def endAs (i : Nat) (r : SR) : SR := match r with
  | .nx τ => .nx (τ.set i none)
  | .rt d τ => .rt d τ
  | .bk τ => .bk (τ.set i none)
  | .ct τ => .ct (τ.set i none)
  | _ => .bad
def tryAs (i : Nat) (o : Option Bool) (c : Str) (τ : Env) (su : Str → MS) : SR := match o with
  | some true => if i < τ.length then endAs i (su c (τ.set i none)) else .bad
  | some false => .ex c τ
  | none => .bad
def sTryAs (i : Nat) (sub : Str → Option Bool) (b : MS) (su : Str → MS) : MS := fun τ => match b τ with
  | .ex c τ' => tryAs i (sub c) c τ' su
  | .nx τ' => .nx τ'
  | .rt d τ' => .rt d τ'
  | .bk τ' => .bk τ'
  | .ct τ' => .ct τ'
  | .bad => .bad
section
variable {X : Cx} {B : Bx} {W : WX}
theorem StT.withE {K : PySem.W.Frag} {F H : Hp} {σ : L2.St} {τ : Env} {vs : List V} {ds : List D} {i : Nat} {a : Addr} (s : StT K B F H σ τ vs ds) (hi : i < τ.length) (hf : ioFree B i) : StT K (B.withE i a) F H (σ.set i (some (.ref a))) (τ.set i none) vs ds := by
  have s1 := s.forget (i := i)
  have io : IoOk B σ := by obtain ⟨_, _, _, _, _, io⟩ := s; exact io
  have hl : σ.length = τ.length := by obtain ⟨_, _, A, _⟩ := s; exact A.length
  have s2 : StT K B F H (σ.set i (some (.ref a))) (τ.set i none) vs ds := s1.reset (by simp) (fun j d h => by
    have : j ≠ i := fun e => by
      subst e
      rw [List.getElem?_set_self hi] at h; cases h
    rw [List.getElem?_set_ne this.symm]) fun p hp => by rw [List.getElem?_set_ne (fun e => hf p hp e.symm)]; exact io p hp
  obtain ⟨f1, f2, A, b, w, io2⟩ := s2
  refine ⟨f1, f2, A, b, ⟨w.nd, w.dF, w.dR, w.sF, w.sR, w.s0, w.fr⟩, fun p hp => ?_⟩
  rcases List.mem_cons.mp hp with rfl | hp
  · rw [List.getElem?_set_self (by omega)]
  · exact io2 p hp
theorem StT.outE {K : PySem.W.Frag} {F H : Hp} {σ : L2.St} {τ : Env} {vs : List V} {ds : List D} {i : Nat} {a : Addr} (s : StT K (B.withE i a) F H σ τ vs ds) : StT K B F H σ τ vs ds := by
  obtain ⟨f1, f2, A, b, w, io2⟩ := s
  exact ⟨f1, f2, A, b, ⟨w.nd, w.dF, w.dR, w.sF, w.sR, w.s0, w.fr⟩, fun p hp => io2 p (List.mem_cons_of_mem _ hp)⟩
theorem StT.clearE {K : PySem.W.Frag} {F H : Hp} {σ : L2.St} {τ : Env} {vs : List V} {ds : List D} {i : Nat} (s : StT K B F H σ τ vs ds) (hf : ioFree B i) : StT K B F H (σ.set i none) (τ.set i none) vs ds := by
  have s1 := s.forget (i := i)
  have io : IoOk B σ := by obtain ⟨_, _, _, _, _, io⟩ := s; exact io
  have hl : σ.length = τ.length := by obtain ⟨_, _, A, _⟩ := s; exact A.length
  exact s1.reset (by simp) (fun j d h => by
    have : j ≠ i := fun e => by
      subst e
      by_cases hj : j < τ.length
      · rw [List.getElem?_set_self hj] at h; cases h
      · rw [List.getElem?_eq_none (by simp; omega)] at h; cases h
    rw [List.getElem?_set_ne this.symm]) fun p hp => by rw [List.getElem?_set_ne (fun e => hf p hp e.symm)]; exact io p hp
theorem s_tryAs {i : Nat} {x n : Str} {cv : Value} {body suite : List Stmt} {b₀ : Stmt} {np pos pos' : Pos} {b : MS} {su : Str → MS} (c : XOk X W) (hN : X.N.Nodup) (hi : X.N[i]? = some n) (hln : X.env.kindOf n = some .local) (sub : Str → Option Bool) (hn : Names X x cv) (hsub : ∀ y t, sub y = some t → PySem.W.exmOne X.K (.ref (B.ca y)) cv = some t) (hs : X.stack = X.env :: X.outer) (hf : X.env.frame = some X.env.locals)
    (hb : ∀ (W' : WX) (pn : List (Addr × Obj)) (xe : Value → Shared → Prop), XOk (X.tr pn xe) W' → PSs (X.tr pn xe) body (rdS X.K B W' b))
    (hsu : ∀ (a : Addr) (oe : Obj) (y : Str) (pn : List (Addr × Obj)), Zc (.ref (B.ca y)) none oe → (∃ vs, oe.data = .fields vs) → PSs (X.suite a ((a, oe) :: pn)) (b₀ :: suite) (rdS X.K (B.withE i a) W0 (su y))) (hio : ioFree B i := by intro p hp; cases hp) :
    PS X (.Try body [.ExceptHandler (some (.Name x np)) (some n) (b₀ :: suite) pos'] [] [] pos) (rdS X.K B W (sTryAs i sub b su)) :=
  PS.imp (ps_try_as (tb := fun W' => rdS X.K B W' b) (ts := fun a cls d => fun D σ H => ∃ y, cls = .ref (B.ca y) ∧ d = none ∧ rdS X.K (B.withE i a) W0 (su y) D σ H) hs hf hN hi hln hn c.tk (fun W' pn xe tk hp => hb W' pn xe ⟨tk, hp, c.calm⟩)
    fun a oe cls d pn hz hv => ⟨fun pins s σ H D I h => by
      obtain ⟨y, rfl, rfl, h⟩ := h
      exact (hsu a oe y pn hz hv).run pins s σ H D I h⟩) fun D σ H ⟨F, τ, vs, ds, s, p⟩ => by
    refine ⟨F, τ, vs, ds, s, ?_⟩
    unfold sTryAs at p
    cases e : b τ with
    | ex y τ' =>
      rw [e] at p
      intro σ' F' H' s'
      cases es : sub y with
      | none => simp only [es, tryAs] at p; exact p.elim
      | some t =>
        simp only [es] at p
        refine ⟨t, hsub y t es, fun ht a ha => ?_, fun ht => ?_⟩
        · subst ht
          by_cases hl : i < τ'.length
          · simp only [tryAs, hl, if_true] at p
            refine ⟨y, rfl, rfl, F', _, vs, ds, s'.withE hl hio, ?_⟩
            cases e2 : su y (τ'.set i none) with
            | nx τ2 => rw [e2] at p; exact fun σ2 F2 H2 s2 => p _ F2 H2 (s2.outE.clearE hio)
            | rt d τ2 => rw [e2] at p; exact fun v σ2 F2 H2 s2 => p v σ2 F2 H2 s2.outE
            | bk τ2 => rw [e2] at p; exact fun σ2 F2 H2 s2 => p _ F2 H2 (s2.outE.clearE hio)
            | ct τ2 => rw [e2] at p; exact fun σ2 F2 H2 s2 => p _ F2 H2 (s2.outE.clearE hio)
            | ex c2 τ2 => rw [e2] at p; exact p.elim
            | bad => rw [e2] at p; exact p.elim
          · simp only [tryAs, hl, if_false] at p; exact p.elim
        · subst ht; exact p σ' F' H' s'
    | _ => rw [e] at p; exact p
def eIs (o : Option Bool) : ME := fun τ => match o with
  | some b => .ok (.bl b) τ
  | none => .bad
theorem e_isE {i : Nat} {a : Addr} {oe : Obj} {pn : List (Addr × Obj)} {y : Str} {n A : Str} {vA : V} {cvA : Value} {o : Option Bool} {p p1 p2 pos : Pos} (hz : Zc (.ref (B.ca y)) none oe) (hv : ∃ vs, oe.data = .fields vs)
    (he : PE (X.suite a ((a, oe) :: pn)) (.Name n p1) (tVar i)) (hA : PE (X.suite a ((a, oe) :: pn)) (.Name A p2) (tC vA)) (hcv : ∀ u, RelV vA u → u = cvA) (hC : ∀ t, o = some t → ExcC X.K (B.ca y) ∧ PySem.W.kitOne X.K (.ref (B.ca y)) cvA = some t)
    (hg : Gl (X.suite a ((a, oe) :: pn)) "isinstance") (hm : X.mg "isinstance" = none)
    (hs1 : starEach [.Name n p1, .Name A p2] (X.suite a ((a, oe) :: pn)).env = (false, eval (.Name n p1) (X.suite a ((a, oe) :: pn)).env) :: starEach [.Name A p2] (X.suite a ((a, oe) :: pn)).env := by rfl)
    (hs2 : starEach [.Name A p2] (X.suite a ((a, oe) :: pn)).env = (false, eval (.Name A p2) (X.suite a ((a, oe) :: pn)).env) :: starEach [] (X.suite a ((a, oe) :: pn)).env := by rfl)
    (hpl : (backTo pos (starEach [.Name A p2] (X.suite a ((a, oe) :: pn)).env)).any (·.1) = false := by rfl) :
    PE (X.suite a ((a, oe) :: pn)) (.Call (.Name "isinstance" p) [.Name n p1, .Name A p2] [] pos) (rdE X.K (B.withE i a) W0 (eIs o)) := by
  cases o with
  | none => exact ⟨fun _ _ _ _ _ _ ⟨F, τ, vs, ds, s, h⟩ => False.elim h⟩
  | some t =>
    obtain ⟨C, hk⟩ := hC t rfl
    refine PE.imp (pe_callB (call_isE C hz hv) hg hm (by decide +kernel) (pa_cons he (pa_cons hA pa_nil hs2) hs1) (by decide) (by decide) hs1 hpl) fun σ H Q ⟨F, τ, vs, ds, s, h⟩ => ?_
    have io : IoOk (B.withE i a) σ := by obtain ⟨_, _, _, _, _, io⟩ := s; exact io
    exact ⟨.ref a, io (i, .ref a) List.mem_cons_self, vA, cvA, t, rfl, hcv, hk, h (.bl t) F H (s.push (d := .bl t) rfl)⟩
end
theorem kit_same {K : PySem.W.Frag} {a : Addr} : PySem.W.kitOne K (.ref a) (.ref a) = some true := by
  unfold PySem.W.kitOne
  rw [if_pos (by simp)]
theorem kit_ref {K : PySem.W.Frag} {a x : Addr} {b : Bool} (h1 : PySem.W.hasDictIn K x = true) (ht : PySem.W.typeIn K (.ref x) = some (.type "type")) (h4 : PySem.W.subIn K (.ref a) (.ref x) = some b) (hb : b = true ∨ (a == x) = false) : PySem.W.kitOne K (.ref a) (.ref x) = some b := by
  obtain ⟨cd, hc, _⟩ := PySem.W.any_some h1
  have e2 : ((PySem.W.clsIn K x).isSome && PySem.W.typeIn K (.ref x) == some (.type "type")) = true := by rw [hc, ht] <;> rfl
  unfold PySem.W.kitOne
  by_cases e : a = x
  · subst e
    rw [if_pos (by simp)]
    rcases hb with rfl | hb
    · rfl
    · simp at hb
  · rw [if_neg (by simp; exact e)]
    show (if ((PySem.W.clsIn K x).isSome && PySem.W.typeIn K (.ref x) == some (.type "type")) = true then PySem.W.subIn K (.ref a) (.ref x) else none) = some b
    rw [if_pos e2]
    exact h4
end Bn
namespace Bn
open PySem PySem.Spec PyProof.Rows L2
def eLstOf (m : MA) : ME := fun τ => (m τ).bind fun ds τ1 => match freezeL ds with
  | [.lst _ es] => .ok (.lst true es) τ1
  | [.tup es] => .ok (.lst true es) τ1
  | _ => .bad
theorem e_lstOf {X : Cx} {B : Bx} {W : WX} {x : Str} {p pos : Pos} {e : Expr} {m : MA} (hg : Gl X x) (hm : X.mg x = none) (hv : bootBuiltins x = some (.type "list")) (ha : PA X [e] (rdA X.K B W m)) (hn : x ≠ "__name__" := by decide) (hdb : (x == ("__debug__" : Str)) = false := by decide)
    (he : starEach [e] X.env = (false, eval e X.env) :: starEach [] X.env := by rfl) (hpl : (backTo pos (starEach [] X.env)).any (·.1) = false := by rfl) : PE X (.Call (.Name x p) [e] [] pos) (rdE X.K B W (eLstOf m)) := PE.imp (pe_callTy call_list_of hg hm hv ha hn hdb he hpl) fun σ H Q ⟨F, τ, vs, ds, s, p⟩ => by
  refine ⟨F, τ, vs, ds, s, post_imp (post_bind p) (fun es τ1 q us F1 H1 hl s1 => ?_) fun _ _ q => q⟩
  obtain ⟨F2, sm, rl, s2⟩ := s1.freeze hl
  match h : freezeL es, q, rl with
  | [.lst b xs], q, rl =>
    obtain ⟨v, r, rfl, r1, r2⟩ := rl
    cases (show r = [] from r2)
    cases b with
    | true => exact r1.elim
    | false =>
      obtain ⟨a, ws, rfl, h1, h2⟩ := r1
      exact ⟨a, ws, rfl, .inl (sqOf (s2.same _ _ h1)), fun l hl => q _ _ _ ((s2.pushL h2).newLst h2.length hl)⟩
  | [.tup xs], q, rl =>
    obtain ⟨v, r, rfl, r1, r2⟩ := rl
    cases (show r = [] from r2)
    obtain ⟨a, ws, rfl, h1, h2⟩ := r1
    exact ⟨a, ws, rfl, .inr (sqT_same s2.same h1), fun l hl => q _ _ _ ((s2.pushL h2).newLst h2.length hl)⟩
end Bn
namespace Bn
open PySem PySem.Spec PyProof.Rows L2
section
variable {X : Cx} {C : Addr}
end
def spI (ca : Str → Addr) (c : Str) (ns : List Str) : Sp := fun vs H Q _ => ∃ a dx ws, vs = .ref a :: ws ∧ ws.length = ns.length ∧ H a = some (.ins (ca c) dx []) ∧ Q .non (upd H a (.ins (ca c) dx (ns.zip ws)))
section
variable {P : Program} {w : World} {K : PySem.W.Frag} {mg : Str → Option Value} {base : Heap} {ca : Str → Addr}
structure MkO (P : Program) (w : World) (K : PySem.W.Frag) (mg : Str → Option Value) (base : Heap) (ca : Str → Addr) (x : Str) (ns : List Str) : Prop where
  ex : ∃ f fd ps, Mk K (ca x) f ∧ mg x = some (.ref (ca x)) ∧ Binds K fd ps [] ∧ FnOk P w K mg base (L2.CX P w) 1 f fd ps (spI ca x ns)
structure MFo (P : Program) (w : World) (K : PySem.W.Frag) (mg : Str → Option Value) (base : Heap) (ca : Str → Addr) (j : Nat) (c m : Str) (g : List D → CR) : Prop where
  ex : ∃ k f fd ps, k ≤ j ∧ Meth K (ca c) m f ∧ Binds K fd ps [] ∧ FnOk P w K mg base (L2.CX P w) k f fd ps (spP K ca g)
  cl : Cls K (ca c)
theorem MFo.mono {i j : Nat} {c m : Str} {g : List D → CR} (h : MFo P w K mg base ca i c m g) (k : i ≤ j) : MFo P w K mg base ca j c m g := by
  obtain ⟨⟨k', f, fd, ps, h1, h2⟩, cl⟩ := h
  exact ⟨⟨k', f, fd, ps, Nat.le_trans h1 k, h2⟩, cl⟩
def MAll (P : Program) (w : World) (K : PySem.W.Frag) (mg : Str → Option Value) (base : Heap) (ca : Str → Addr) (j : Nat) (m : Str) : List (Str × (List D → CR)) → Prop
  | [] => True
  | p :: r => MFo P w K mg base ca j p.1 m p.2 ∧ MAll P w K mg base ca j m r
theorem MAll.get {j : Nat} {m : Str} : ∀ {As : List (Str × (List D → CR))} {c : Str} {g : List D → CR}, MAll P w K mg base ca j m As → As.lookup c = some g → MFo P w K mg base ca j c m g
  | [], _, _, _, e => by cases e
  | (c', g') :: r, c, g, ⟨h1, h2⟩, e => by
    rw [List.lookup_cons] at e
    by_cases q : c = c'
    · subst q
      simp at e; subst e; exact h1
    · have q' : (c == c') = false := by simpa using q
      rw [q'] at e
      exact h2.get e
end
section
variable {X : Cx} {B : Bx} {W : WX}
structure IsO (K : PySem.W.Frag) (C A : Addr) (b : Bool) : Prop where
  cl : Cls K C
  ha : PySem.W.findIn K (.ref C) "__class__" = some (some (.builtin "object.__class__"))
  hn : PySem.W.specialIn K (.builtin "object.__class__") "__get__" = some (some (.builtin "getset_descriptor.__get__"))
  htk : PySem.W.takesIn K (.builtin "object.__class__") = some true
  hm : PySem.W.mroIn K C (.type "object") = some true
  ko : PySem.W.kitOne K (.ref C) (.ref A) = some b
theorem RepL.append {K : PySem.W.Frag} {ca : Str → Addr} {F : Hp} : ∀ {xs ys : List D} {us vs : List V}, RepL K ca F xs us → RepL K ca F ys vs → RepL K ca F (xs ++ ys) (us ++ vs)
  | [], _, _, _, h, k => by cases (show _ = [] from h); exact k
  | x :: xs, ys, _, vs, ⟨v, r, e, h1, h2⟩, k => by subst e; exact ⟨v, r ++ vs, rfl, h1, h2.append k⟩
def catD : D → D → Option D
  | .lst false xs, .lst false ys => if xs.length + ys.length ≤ 1000000 then some (.lst true (xs ++ ys)) else none
  | _, _ => none
def slE' (o : Option D) (τ : Env) : R D := match o with
  | some x => .ok x τ | none => .bad
def eCat (a b : ME) : ME := fun τ => (a τ).bind fun x τ1 => (b τ1).bind fun y τ2 => slE' (catD (freeze x) (freeze y)) τ2
theorem e_cat {a b : Expr} {pos : Pos} {m n : ME} (ha : PE X a (rdE X.K B W m)) (hb : PE X b (rdE X.K B W n)) : PE X (.BinOp a .Add b pos) (rdE X.K B W (eCat m n)) := PE.imp (pe_op op_cat ha hb) fun σ H Q h => by
  obtain ⟨F, τ, vs, ds, s, p⟩ := h
  refine ⟨F, τ, vs, ds, s, post_imp (post_bind p) (fun x τ1 q v F1 H1 s1 => ⟨F1, τ1, _, _, s1, post_imp (post_bind q) (fun y τ2 q w F2 H2 s2 => ?_) fun c τ2 q F2 H2 s2 => q F2 H2 s2.pop⟩) fun _ _ q => q⟩
  obtain ⟨F3, sm, ⟨w', r', e1, r1, ⟨v', r'', e2, r2, _⟩⟩, s3⟩ := StT.freeze (us := [w, v]) (es := [y, x]) s2 rfl
  cases e1; cases e2
  cases ex : freeze x with
  | lst m1 xs =>
    cases ey : freeze y with
    | lst m2 ys =>
      rw [ex, ey] at q
      rw [ex] at r2; rw [ey] at r1
      cases m1 with
      | true => exact q.elim
      | false =>
        cases m2 with
        | true => exact q.elim
        | false =>
          replace q : post _ _ (slE' (if xs.length + ys.length ≤ 1000000 then some (.lst true (xs ++ ys)) else none) τ2) := q
          by_cases z : xs.length + ys.length ≤ 1000000
          · rw [if_pos z] at q
            obtain ⟨a1, us1, rfl, k1, k2⟩ := r2
            obtain ⟨a2, us2, rfl, l1, l2⟩ := r1
            refine ⟨a1, a2, us1, us2, rfl, rfl, s3.same _ _ k1, s3.same _ _ l1, ?_, fun p hp => ?_⟩
            · have h1 := k2.length
              have h2 := l2.length
              exact le_sizeLine (by omega)
            · have k3 := RepL.append k2 l2
              exact q _ _ _ ((s3.pushL k3).newLst k3.length hp)
          · rw [if_neg z] at q; exact q.elim
    | _ => rw [ex, ey] at q; cases xs <;> first | exact q.elim | (revert q; cases m1 <;> exact fun q => q.elim)
  | _ => rw [ex] at q; exact q.elim
end
end Bn
namespace Bn
open PySem PySem.Spec PyProof.Rows L2
mutual
def clean : D → Bool
  | .non => true | .bl _ => true | .int _ => true | .str _ => true | .ty _ => true
  | .tup xs => cleanL xs
  | .lst m xs => m && cleanL xs
  | .cst _ => false
  | .obj m _ _ xs => m && cleanL xs
  | .val _ => false
  | .exc _ => false
  | .tpo xs => cleanL xs
  | .dct m _ xs => m && cleanL xs
def cleanL : List D → Bool
  | [] => true
  | x :: xs => clean x && cleanL xs
end
section
variable {K : PySem.W.Frag} {ca : Str → Addr} {F F' H H' : Hp}
mutual
theorem Rep.back (k : ∀ a xs, SqT K F a xs → SqT K F' a xs) : ∀ (d : D) (v : V), clean d = true → Rep K ca F d v → Rep K ca F' d v
  | .non, _, _, h => h
  | .bl _, _, _, h => h
  | .int _, _, _, h => h
  | .str _, _, _, h => h
  | .ty _, _, _, h => h
  | .tup ds, v, c, h => by
    obtain ⟨a, vs, h1, h2, h3⟩ := h
    exact ⟨a, vs, h1, k a vs h2, RepL.back k ds vs c h3⟩
  | .lst true _, _, _, h => h.elim
  | .lst false xs, _, c, _ => by cases (show (false && cleanL xs) = true from c)
  | .cst _, _, c, _ => by cases (show false = true from c)
  | .obj true _ _ _, _, _, h => h.elim
  | .obj false _ _ xs, _, c, _ => by cases (show (false && cleanL xs) = true from c)
  | .val _, _, c, _ => by cases (show false = true from c)
  | .exc _, _, c, _ => by cases (show false = true from c)
  | .tpo _, _, _, h => h.elim
  | .dct true _ _, _, _, h => h.elim
  | .dct false _ xs, _, c, _ => by cases (show (false && cleanL xs) = true from c)
theorem RepL.back (k : ∀ a xs, SqT K F a xs → SqT K F' a xs) : ∀ (ds : List D) (vs : List V), cleanL ds = true → RepL K ca F ds vs → RepL K ca F' ds vs
  | [], _, _, h => h
  | d :: ds, _, c, ⟨v, r, e, h1, h2⟩ => by
    have c' : (clean d && cleanL ds) = true := c
    rw [Bool.and_eq_true] at c'
    exact ⟨v, r, e, Rep.back k d v c'.1 h1, RepL.back k ds r c'.2 h2⟩
end
mutual
theorem RepO.back (k : ∀ a xs, SqT K F a xs → SqT K F' a xs) : ∀ (d : D) (v : V) (f : Ct), clean d = true → RepO K ca F H d v f → RepO K ca F' H d v f
  | .lst true ds, v, f, c, h => by
    obtain ⟨a, vs, g, h1, h2, h3, h4⟩ := h
    exact ⟨a, vs, g, h1, h2, RepOs.back k ds vs g (by have c' : (true && cleanL ds) = true := c; simpa using c') h3, h4⟩
  | .obj true _ ns ds, v, f, c, h => by
    obtain ⟨a, dx, fs, vs, g, h1, h2, h2', h2'', h3, h4⟩ := h
    exact ⟨a, dx, fs, vs, g, h1, h2, h2', h2'', RepOs.back k ds vs g (by have c' : (true && cleanL ds) = true := c; simpa using c') h3, h4⟩
  | .lst false _, v, f, c, h => ⟨Rep.back k _ v c h.1, h.2⟩
  | .obj false _ _ _, v, f, c, h => ⟨Rep.back k _ v c h.1, h.2⟩
  | .non, v, f, c, h => ⟨Rep.back k _ v c h.1, h.2⟩
  | .bl _, v, f, c, h => ⟨Rep.back k _ v c h.1, h.2⟩
  | .int _, v, f, c, h => ⟨Rep.back k _ v c h.1, h.2⟩
  | .str _, v, f, c, h => ⟨Rep.back k _ v c h.1, h.2⟩
  | .ty _, v, f, c, h => ⟨Rep.back k _ v c h.1, h.2⟩
  | .val _, v, f, c, h => ⟨Rep.back k _ v c h.1, h.2⟩
  | .exc _, v, f, c, h => ⟨Rep.back k _ v c h.1, h.2⟩
  | .tpo ds, v, f, c, h => by
    obtain ⟨a, vs, h1, h2, h3⟩ := h
    exact ⟨a, vs, h1, k a vs h2, RepOs.back k ds vs f c h3⟩
  | .dct true ks ds, v, f, c, h => by
    obtain ⟨a, vs, g, h1, h2, h2', h3, h4⟩ := h
    exact ⟨a, vs, g, h1, h2, h2', RepOs.back k ds vs g (by have c' : (true && cleanL ds) = true := c; simpa using c') h3, h4⟩
  | .dct false _ _, v, f, c, h => ⟨Rep.back k _ v c h.1, h.2⟩
  | .tup _, v, f, c, h => ⟨Rep.back k _ v c h.1, h.2⟩
  | .cst _, v, f, c, h => ⟨Rep.back k _ v c h.1, h.2⟩
theorem RepOs.back (k : ∀ a xs, SqT K F a xs → SqT K F' a xs) : ∀ (ds : List D) (vs : List V) (f : Ct), cleanL ds = true → RepOs K ca F H ds vs f → RepOs K ca F' H ds vs f
  | [], _, _, _, h => h
  | d :: ds, _, f, c, ⟨v, r, f1, f2, e, h1, h2, h3⟩ => by
    have c' : (clean d && cleanL ds) = true := c
    rw [Bool.and_eq_true] at c'
    exact ⟨v, r, f1, f2, e, RepO.back k d v f1 c'.1 h1, RepOs.back k ds r f2 c'.2 h2, h3⟩
end
def LsIn (H : Hp) (a : Addr) : Prop := (∃ xs, H a = some (.lst xs)) ∨ (∃ c dx fs, H a = some (.ins c dx fs)) ∨ ∃ kvs, H a = some (.dK kvs)
mutual
theorem RepO.kind : ∀ (d : D) (v : V) (f : Ct), RepO K ca F H d v f → ∀ a, 0 < f a → LsIn H a
  | .lst true ds, v, f, h, b, hb => by
    obtain ⟨a, vs, g, h1, h2, h3, h4⟩ := h
    by_cases e : b = a
    · subst e; exact .inl ⟨_, h2⟩
    · exact RepOs.kind ds vs g h3 b (by rw [h4, if_neg e] at hb; omega)
  | .obj true _ ns ds, v, f, h, b, hb => by
    obtain ⟨a, dx, fs, vs, g, h1, h2, h2', h2'', h3, h4⟩ := h
    by_cases e : b = a
    · subst e; exact .inr (.inl ⟨_, _, _, h2⟩)
    · exact RepOs.kind ds vs g h3 b (by rw [h4, if_neg e] at hb; omega)
  | .lst false _, v, f, h, b, hb => by rw [h.2] at hb; omega
  | .obj false _ _ _, v, f, h, b, hb => by rw [h.2] at hb; omega
  | .non, v, f, h, b, hb => by rw [h.2] at hb; omega
  | .bl _, v, f, h, b, hb => by rw [h.2] at hb; omega
  | .int _, v, f, h, b, hb => by rw [h.2] at hb; omega
  | .str _, v, f, h, b, hb => by rw [h.2] at hb; omega
  | .ty _, v, f, h, b, hb => by rw [h.2] at hb; omega
  | .val _, v, f, h, b, hb => by rw [h.2] at hb; omega
  | .exc _, v, f, h, b, hb => by rw [h.2] at hb; omega
  | .tpo ds, v, f, h, b, hb => by
    obtain ⟨a, vs, h1, h2, h3⟩ := h
    exact RepOs.kind ds vs f h3 b hb
  | .dct true _ ds, v, f, h, b, hb => by
    obtain ⟨a, vs, g, h1, h2, h2', h3, h4⟩ := h
    by_cases e : b = a
    · subst e; exact .inr (.inr ⟨_, h2⟩)
    · exact RepOs.kind ds vs g h3 b (by rw [h4, if_neg e] at hb; omega)
  | .dct false _ _, v, f, h, b, hb => by rw [h.2] at hb; omega
  | .tup _, v, f, h, b, hb => by rw [h.2] at hb; omega
  | .cst _, v, f, h, b, hb => by rw [h.2] at hb; omega
theorem RepOs.kind : ∀ (ds : List D) (vs : List V) (f : Ct), RepOs K ca F H ds vs f → ∀ a, 0 < f a → LsIn H a
  | [], _, _, h, b, hb => by rw [h.2] at hb; omega
  | d :: ds, _, f, ⟨v, r, f1, f2, e, h1, h2, h3⟩, b, hb => by
    rw [h3] at hb
    by_cases q : 0 < f1 b
    · exact RepO.kind d v f1 h1 b q
    · exact RepOs.kind ds r f2 h2 b (by omega)
end
def lend (F H : Hp) (f : Ct) : Hp := fun b => match F b with
  | some o => some o
  | none => if 0 < f b then H b else none
theorem lend_same (F H : Hp) (f : Ct) : Same F (lend F H f) := fun b x e => by
  unfold lend; rw [e]
theorem lend_at (sm : Same F H) {f : Ct} {b : Addr} (h : 0 < f b) : lend F H f b = H b := by
  unfold lend
  cases q : F b with
  | some o => exact (sm _ _ q).symm
  | none => exact if_pos h
end
section
variable {K : PySem.W.Frag} {B : Bx} {F H : Hp} {σ : L2.St} {τ : Env} {vs us : List V} {ds es : List D} {v : V} {d : D} {f : Ct}
theorem StT.lent {F' H' : Hp} {g : Ct} (s : StT K B F H σ τ vs ds) (r : RepOs K B.ca F H es us f) (h1 : Same (lend F H f) F') (h2 : Same F' H') (h3 : Same H H') (hv : RepO K B.ca F' H' d v g) (h4 : ∀ a, g a ≤ 1) (h5 : ∀ a, 0 < g a → F' a = none ∧ H a = none)
    (h6 : ∀ a, F' a ≠ none → lend F H f a ≠ none ∨ H a = none) (hc : clean d = true) : ∃ F2, StT K B F2 H' σ τ (v :: vs) (d :: ds) := by
  classical
  have sm := lend_same F H f
  refine ⟨fun b => if F b = none ∧ 0 < f b then none else F' b, s.called (g := g) (fun b x e => ?_) (fun b x e => ?_) h3 (hv.back (fun a xs q => ?_) _ _ _ hc) h4 (fun a q => ⟨?_, (h5 a q).2⟩) fun a q => ?_⟩
  · show (if F b = none ∧ 0 < f b then none else F' b) = some x
    rw [if_neg (fun z => by rw [z.1] at e; cases e)]
    exact h1 _ _ (sm _ _ e)
  · replace e : (if F b = none ∧ 0 < f b then none else F' b) = some x := e
    split at e
    · cases e
    · exact h2 _ _ e
  · rcases q with q | q
    · refine .inl ?_
      have key : ∀ o, F' a = some o → (∀ ys, o ≠ .lst ys) → (∀ c dx fs, o ≠ .ins c dx fs) → (∀ kvs, o ≠ .dK kvs) → (fun b => if F b = none ∧ 0 < f b then none else F' b) a = some o := fun o ho n1 n2 n3 => by
        show (if F a = none ∧ 0 < f a then none else F' a) = some o
        rw [if_neg (fun z => ?_)]
        · exact ho
        · have e := h1 a
          rw [lend_at s.same z.2] at e
          rcases RepOs.kind _ _ _ r a z.2 with ⟨ys, hk⟩ | ⟨c, dx, fs, hk⟩ | ⟨kvs, hk⟩
          · have := e _ hk
            rw [ho] at this
            cases this
            exact n1 _ rfl
          · have := e _ hk
            rw [ho] at this
            cases this
            exact n2 _ _ _ rfl
          · have := e _ hk
            rw [ho] at this
            cases this
            exact n3 _ rfl
      rcases q with q | ⟨o, q⟩
      · exact .inl (key _ q (fun _ z => by cases z) (fun _ _ _ z => by cases z) (fun _ z => by cases z))
      · exact .inr ⟨o, key _ q (fun _ z => by cases z) (fun _ _ _ z => by cases z) (fun _ z => by cases z)⟩
    · exact .inr q
  · show (if F a = none ∧ 0 < f a then none else F' a) = none
    split
    · rfl
    · exact (h5 a q).1
  · replace q : (if F a = none ∧ 0 < f a then none else F' a) ≠ none := q
    by_cases z : F a = none ∧ 0 < f a
    · rw [if_pos z] at q; exact absurd rfl q
    · rw [if_neg z] at q
      rcases h6 a q with k | k
      · refine .inl fun e => ?_
        unfold lend at k
        rw [e] at k
        replace k : (if 0 < f a then H a else none) ≠ none := k
        rw [if_neg (fun y => z ⟨e, y⟩)] at k
        exact k rfl
      · exact .inr k
end
section
variable {X : Cx} {B : Bx} {W : WX}
theorem RepOs.set {K : PySem.W.Frag} {ca : Str → Addr} {F H : Hp} {d : D} {v : V} {g2 : Ct} (hv : RepO K ca F H d v g2) : ∀ {ds : List D} {vs : List V} {f : Ct} (j : Nat), RepOs K ca F H ds vs f → ∃ g, RepOs K ca F H (ds.set j d) (vs.set j v) g ∧ ∀ b, g b ≤ f b + g2 b
  | [], vs, f, j, h => by
    cases (show vs = [] from h.1)
    exact ⟨f, h, fun b => by omega⟩
  | x :: ds, _, f, 0, ⟨w, r, f1, f2, e, h1, h2, h3⟩ => by
    subst e
    exact ⟨fun b => g2 b + f2 b, ⟨v, r, g2, f2, rfl, hv, h2, fun _ => rfl⟩, fun b => by show g2 b + f2 b ≤ f b + g2 b; rw [h3]; omega⟩
  | x :: ds, _, f, j + 1, ⟨w, r, f1, f2, e, h1, h2, h3⟩ => by
    subst e
    obtain ⟨g, k1, k2⟩ := RepOs.set hv j h2
    exact ⟨fun b => f1 b + g b, ⟨w, r.set j v, f1, g, rfl, h1, k1, fun _ => rfl⟩, fun b => by show f1 b + g b ≤ f b + g2 b; have := k2 b; rw [h3]; omega⟩
theorem StT.len {K : PySem.W.Frag} {F H : Hp} {σ : L2.St} {τ : Env} {vs : List V} {ds : List D} (s : StT K B F H σ τ vs ds) : σ.length = τ.length := by
  obtain ⟨_, _, a, _⟩ := s
  exact a.length
end
end Bn
namespace Bn
open PySem PySem.Spec PyProof.Rows L2
inductive CR2 where
  | ok (d : D) (outs : List D)
  | bad
def spIO (K : PySem.W.Frag) (ca : Str → Addr) (k : Nat) (g : List D → CR2) : Sp := fun vs H Q _ => ∃ F f ios rest us ws, vs = us ++ ws ∧ ios.length = k ∧ RepOs K ca F H ios us f ∧ RepL K ca F rest ws ∧ Same F H ∧ (∀ a, f a ≤ 1) ∧ (∀ a, 0 < f a → F a = none) ∧
  match g (ios ++ rest) with
  | .ok d outs => ∀ v F' H' g', Same F F' → Same F' H' → (∀ a o, f a = 0 → H a = some o → H' a = some o) → RepOs K ca F' H' (d :: outs) (v :: us) g' → (∀ a, g' a ≤ 1) → (∀ a, 0 < g' a → F' a = none ∧ (H a = none ∨ 0 < f a)) → (∀ a, F' a ≠ none → F a ≠ none ∨ H a = none ∨ 0 < f a) → Q v H'
  | .bad => False
structure FoI (P : Program) (w : World) (K : PySem.W.Frag) (mg : Str → Option Value) (base : Heap) (ca : Str → Addr) (k : Nat) (x : Str) (m : Nat) (g : List D → CR2) : Prop where
  ex : ∃ f fd ps, mg x = some (.ref f) ∧ PySem.W.keepIn K (.ref f) = true ∧ Binds K fd ps [] ∧ FnOk P w K mg base (L2.CX P w) k f fd ps (spIO K ca m g)
section
variable {K : PySem.W.Frag} {ca : Str → Addr} {F H : Hp}
end
section
variable {P : Program} {w : World} {K : PySem.W.Frag} {mg : Str → Option Value} {base : Heap} {ca : Str → Addr}
end
def takeD : List Nat → Env → Option (List D × Env)
  | [], τ => some ([], τ)
  | i :: is, τ => match τ.getD i none with
    | none => none
    | some d => (takeD is (τ.set i none)).map fun p => (d :: p.1, p.2)
section
variable {X : Cx} {B : Bx} {W : WX}
theorem StT.takes {F H : Hp} {σ : L2.St} : ∀ {is : List Nat} {τ τ' : Env} {vs vals : List V} {ds ios : List D}, StT X.K B F H σ τ vs ds → takeD is τ = some (ios, τ') → vals.length = is.length → (∀ (j i : Nat), is[j]? = some i → ∃ v, vals[j]? = some v ∧ σ[i]? = some (some v)) → ios.length = is.length ∧ StT X.K B F H σ τ' (vals ++ vs) (ios ++ ds)
  | [], τ, τ', vs, vals, ds, ios, s, e, hl, _ => by
    cases (show some ([], τ) = some (ios, τ') from e)
    cases vals with
    | nil => exact ⟨rfl, s⟩
    | cons _ _ => cases hl
  | i :: is, τ, τ', vs, vals, ds, ios, s, e, hl, hv => by
    cases e1 : τ.getD i none with
    | none =>
      unfold takeD at e
      rw [e1] at e; cases e
    | some d =>
      unfold takeD at e
      rw [e1] at e
      replace e : (takeD is (τ.set i none)).map (fun p => (d :: p.1, p.2)) = some (ios, τ') := e
      cases e2 : takeD is (τ.set i none) with
      | none => rw [e2] at e; cases e
      | some p =>
        rw [e2] at e
        cases e
        cases vals with
        | nil => cases hl
        | cons v vals =>
          obtain ⟨v', k1, k2⟩ := hv 0 i rfl
          obtain ⟨v2, k3, s1⟩ := s.take (getD_some e1)
          have : v' = v := by simpa using k1.symm
          subst this
          rw [k2] at k3
          cases k3
          obtain ⟨hl2, s2⟩ := StT.takes (vals := vals) (ios := p.1) (τ' := p.2) s1 e2 (by simpa using hl) fun j i' hj => by
            obtain ⟨w, q1, q2⟩ := hv (j + 1) i' (by simpa using hj)
            exact ⟨w, by simpa using q1, q2⟩
          have hl3 : vals.length = p.1.length := by
            have : vals.length = is.length := by simpa using hl
            omega
          exact ⟨by simp [hl2], s2.swap hl3⟩
def insI (x : Int) : List Int → List Int
  | [] => [x]
  | y :: r => if x ≤ y then x :: y :: r else y :: insI x r
instance decCMul {i j : Int} : Decidable (CMul i j) := by unfold CMul; infer_instance
end
end Bn
namespace Bn
open PySem PySem.Spec PyProof.Rows L2
section
variable {prog : Program} {w : World} {A : Around} {E : Value → Shared → Prop} {s : Shared}
end
section
variable {X : Cx}
end
section
variable {X : Cx} {B : Bx} {W : WX}
theorem RepL.app {K : PySem.W.Frag} {ca : Str → Addr} {F : Hp} : ∀ {ds es : List D} {vs us : List V}, RepL K ca F ds vs → RepL K ca F es us → RepL K ca F (ds ++ es) (vs ++ us)
  | [], es, vs, us, h, k => by cases (show vs = [] from h); exact k
  | d :: ds, es, _, us, ⟨v, r, h1, h2, h3⟩, k => by subst h1; exact ⟨v, r ++ us, rfl, h2, h3.app k⟩
theorem RepL.rev {K : PySem.W.Frag} {ca : Str → Addr} {F : Hp} : ∀ {ds : List D} {vs : List V}, RepL K ca F ds vs → RepL K ca F ds.reverse vs.reverse
  | [], vs, h => by cases (show vs = [] from h); exact rfl
  | d :: ds, _, ⟨v, r, h1, h2, h3⟩ => by
    subst h1
    rw [List.reverse_cons, List.reverse_cons]
    exact h3.rev.app ⟨v, [], rfl, h2, rfl⟩
theorem RepOs.clr {K : PySem.W.Frag} {ca : Str → Addr} {F H : Hp} : ∀ {es : List D} {us : List V} {g : Ct} {k : Nat} {ws : List D}, RepOs K ca F H es us g → es[k]? = some (.lst true ws) → (∀ a, g a ≤ 1) →
    ∃ b vs, us[k]? = some (.ref b) ∧ H b = some (.lst vs) ∧ 0 < g b ∧ ∃ g', RepOs K ca F (upd H b (.lst [])) (es.set k (.lst true [])) us g' ∧ ∀ x, g' x ≤ g x
  | [], _, _, _, _, _, e, _ => by simp at e
  | d :: es, _, g, 0, ws, ⟨v, r, f1, f2, e, h1, h2, h3⟩, hd, nd => by
    subst e
    have : d = .lst true ws := by simpa using hd
    subst this
    obtain ⟨b, vs, g1, rfl, hx, hg, q⟩ := h1
    have f1b : f1 b = 1 + g1 b := by rw [q, if_pos rfl]
    have one := nd b
    rw [h3, f1b] at one
    refine ⟨b, vs, rfl, hx, by rw [h3, f1b]; omega, fun x => (if x = b then 1 else 0) + f2 x, ?_, fun x => ?_⟩
    · refine ⟨.ref b, r, fun x => if x = b then 1 else 0, f2, rfl, ⟨b, [], fun _ => 0, rfl, upd_same, ⟨rfl, fun _ => rfl⟩, fun x => rfl⟩, RepOs.mono (Same.refl _) _ _ _ (fun x hx => upd_ne fun e => ?_) h2, fun _ => rfl⟩
      subst e; omega
    · show (if x = b then 1 else 0) + f2 x ≤ g x
      rw [h3, q]; omega
  | d :: es, _, g, k + 1, ws, ⟨v, r, f1, f2, e, h1, h2, h3⟩, hd, nd => by
    subst e
    obtain ⟨b, vs, k1, k2, k3, g', k4, k5⟩ := RepOs.clr (k := k) (ws := ws) h2 (by simpa using hd) (fun a => by have := nd a; rw [h3] at this; omega)
    have one := nd b
    rw [h3] at one
    refine ⟨b, vs, by simpa using k1, k2, by rw [h3]; omega, fun x => f1 x + g' x, ⟨v, r, f1, g', rfl, RepO.mono (Same.refl _) _ _ _ (fun x hx => upd_ne fun e => ?_) h1, k4, fun _ => rfl⟩, fun x => by show f1 x + g' x ≤ g x; rw [h3]; have := k5 x; omega⟩
    subst e; omega
theorem StT.clr {K : PySem.W.Frag} {F H : Hp} {σ : L2.St} {τ : Env} {vs : List V} {es ds ws : List D} {a : Addr} {k : Nat} (s : StT K B F H σ τ (.ref a :: vs) (.lst true es :: ds)) (hk : es[k]? = some (.lst true ws)) :
    ∃ us b xs, H a = some (.lst us) ∧ us[k]? = some (.ref b) ∧ H b = some (.lst xs) ∧ StT K B F (upd H b (.lst [])) σ τ (.ref a :: vs) (.lst true (es.set k (.lst true [])) :: ds) := by
  obtain ⟨f1, f2, A, ⟨_, _, g1, g2, e, h, b2, q⟩, w, io⟩ := s
  cases e
  obtain ⟨a', us, g3, e', hx, h3, q3⟩ := h
  cases e'
  have tot : ∀ x, f1 x + f2 x = f1 x + ((if x = a then 1 else 0) + g3 x + g2 x) := fun x => by rw [q, q3]
  have nd : ∀ x, f1 x + ((if x = a then 1 else 0) + g3 x + g2 x) ≤ 1 := fun x => by rw [← tot]; exact w.nd x
  obtain ⟨b, xs, k1, k2, k3, g', k4, k5⟩ := RepOs.clr h3 hk fun x => by have := nd x; omega
  have nb := nd b
  have hba : a ≠ b := fun e => by subst e; rw [if_pos rfl] at nb; omega
  rw [if_neg (fun e => hba e.symm)] at nb
  have off : ∀ {φ : Ct}, φ b = 0 → ∀ x, 0 < φ x → upd H b (.lst []) x = H x := fun {φ} hz x hx => upd_ne fun e => by rw [e, hz] at hx; omega
  have fb : F b = none := w.dF b (by show 0 < f1 b + f2 b; rw [tot]; omega)
  have rb : B.R b = none := w.dR b (by show 0 < f1 b + f2 b; rw [tot]; omega)
  refine ⟨us, b, xs, hx, k1, k2, f1, fun x => ((if x = a then 1 else 0) + g' x) + g2 x, A.mono (Same.refl _) (off (by omega)), ⟨.ref a, vs, fun x => (if x = a then 1 else 0) + g' x, g2, rfl, ⟨a, us, g', rfl, (upd_ne hba).trans hx, k4, fun _ => rfl⟩, RepOs.mono (Same.refl _) _ _ _ (off (by omega)) b2, fun _ => rfl⟩, ?_, io⟩
  have w2 : Wd B F H (fun x => f1 x + (((if x = a then 1 else 0) + g' x) + g2 x)) := w.less fun x => by
    show f1 x + (((if x = a then 1 else 0) + g' x) + g2 x) ≤ f1 x + f2 x
    have := tot x; have := k5 x; omega
  exact ⟨w2.nd, w2.dF, w2.dR, fun x o e => by rw [upd_ne (ne_of_none e fb)]; exact w.sF x o e, fun x o e => by rw [upd_ne (ne_of_none e rb)]; exact w.sR x o e, w.s0, w.fr⟩
theorem RepOs.insI {K : PySem.W.Frag} {ca : Str → Addr} {F H : Hp} {d0 : D} {v0 : V} {f0 : Ct} (h0 : RepO K ca F H d0 v0 f0) : ∀ {es : List D} {us : List V} {g : Ct} (k : Nat), RepOs K ca F H es us g → ∃ g', RepOs K ca F H (es.take k ++ [d0] ++ es.drop k) (us.take k ++ [v0] ++ us.drop k) g' ∧ ∀ x, g' x ≤ g x + f0 x
  | es, us, g, 0, h => by
    refine ⟨fun x => f0 x + g x, ?_, fun x => by show f0 x + g x ≤ g x + f0 x; omega⟩
    simp only [List.take_zero, List.drop_zero, List.nil_append, List.singleton_append]
    exact ⟨v0, us, f0, g, rfl, h0, h, fun _ => rfl⟩
  | [], us, g, k + 1, h => by
    have e : us = [] := h.1
    subst e
    refine ⟨f0, ?_, fun x => by omega⟩
    exact ⟨v0, [], f0, fun _ => 0, rfl, h0, ⟨rfl, fun _ => rfl⟩, fun _ => rfl⟩
  | d :: es, _, g, k + 1, ⟨v, r, f1, f2, e, h1, h2, h3⟩ => by
    subst e
    obtain ⟨g', k1, k2⟩ := RepOs.insI h0 k h2
    exact ⟨fun x => f1 x + g' x, ⟨v, _, f1, g', rfl, h1, k1, fun _ => rfl⟩, fun x => by show f1 x + g' x ≤ g x + f0 x; rw [h3]; have := k2 x; omega⟩
end
end Bn
namespace Bn
open PySem PySem.Spec PyProof.Rows L2
def rangeN (lo : Int) (n : Nat) : List D := (List.range n).map fun k => D.int (lo + (k : Nat) * (-1))
section
variable {X : Cx} {B : Bx} {W : WX}
end
end Bn
namespace Bn
open PySem PySem.Spec PyProof.Rows L2
section
variable {P : Program} {w : World} {K : PySem.W.Frag} {mg : Str → Option Value} {base : Heap} {ca : Str → Addr}
theorem fo_bad {x qual : Str} {st : Stmt} {f : Addr} {fd : FuncData} {ps : List Str} {k : Nat} (F : Fun K x qual st f fd) (hm : mg x = some (.ref f)) (hb : Binds K fd ps []) : Fo P w K mg base ca k x (fun _ => .bad) :=
  ⟨f, fd, ps, hm, F.kp, hb, ⟨fun vs H Q E h => by obtain ⟨_, _, _, _, z⟩ := h; exact z.elim, fun A outer s H args us vs Q E _ _ _ _ h => by obtain ⟨_, _, _, _, z⟩ := h; exact z.elim⟩⟩
theorem Fo.at {x : Str} {g : List D → CR} {k j : Nat} (F : Fo P w K mg base ca k x g) (h : k = j) : Fo P w K mg base ca j x g := h ▸ F
end
def gInt : List D → Option D
  | [.int i] => some (.int i)
  | [.bl b] => some (.int (if b then 1 else 0))
  | _ => none
theorem sInt {K : PySem.W.Frag} : CallS K (fun xs H Q => (∃ i, xs = [.int i] ∧ Q (.int i) H) ∨ ∃ k, xs = [.bl k] ∧ Q (.int (if k then 1 else 0)) H) gInt := by
  intro ca F H xs as d f1 Q sm hx e q
  match as, e, hx with
  | [.int i], e, hx =>
    obtain ⟨v, r, g1, g2, rfl, h1, h2, _⟩ := hx
    cases (show r = [] from h2.1)
    cases (show some (D.int i) = some d from e)
    cases (show v = .int i from h1.1)
    exact .inl ⟨i, rfl, q (.int i) _ (Rep.o (d := .int i) rfl)⟩
  | [.bl b], e, hx =>
    obtain ⟨v, r, g1, g2, rfl, h1, h2, _⟩ := hx
    cases (show r = [] from h2.1)
    cases (show some (D.int (if b then 1 else 0)) = some d from e)
    cases (show v = .bl b from h1.1)
    exact .inr ⟨b, rfl, q (.int (if b then 1 else 0)) _ (Rep.o (d := .int (if b then 1 else 0)) rfl)⟩
def gStrI : List D → Option D
  | [.int i] => if i.natAbs.log2 < 1920 then some (.str (toString i)) else none
  | _ => none
theorem sStrI {K : PySem.W.Frag} : CallS K (fun xs H Q => ∃ i, xs = [.int i] ∧ i.natAbs.log2 < 1920 ∧ Q (.str (toString i)) H) gStrI := by
  intro ca F H xs as d f1 Q sm hx e q
  match as, e, hx with
  | [.int i], e, hx =>
    obtain ⟨v, r, g1, g2, rfl, h1, h2, _⟩ := hx
    cases (show r = [] from h2.1)
    by_cases c : i.natAbs.log2 < 1920
    · have e' : (if i.natAbs.log2 < 1920 then some (D.str (toString i)) else none) = some d := e
      rw [if_pos c] at e'
      cases e'
      cases (show v = .int i from h1.1)
      exact ⟨i, rfl, c, q (.str (toString i)) _ (Rep.o (d := .str (toString i)) rfl)⟩
    · have e' : (if i.natAbs.log2 < 1920 then some (D.str (toString i)) else none) = some d := e
      rw [if_neg c] at e'
      cases e'
end Bn
namespace Bn
open PySem PySem.Spec PyProof.Rows L2
def CDivX (i j : Int) : Prop := j ≠ 0 ∧ j.natAbs.log2 < 9000
instance {i j : Int} : Decidable (CDivX i j) := by unfold CDivX; infer_instance
end Bn
namespace Bn
open PySem PySem.Spec PyProof.Rows L2
end Bn
namespace Bn
open PySem PySem.Spec PyProof.Rows L2
section
variable {X : Cx} {B : Bx} {W : WX}
end
end Bn
namespace Bn
open PySem PySem.Spec PyProof.Rows L2
def Bx.io1 (B : Bx) (i : Nat) (v : V) : Bx := ⟨B.ca, B.F0, B.R, (i, v) :: B.io⟩
section
variable {X : Cx} {B : Bx} {W : WX}
theorem StT.io1 {K : PySem.W.Frag} {F H : Hp} {σ : L2.St} {τ : Env} {vs : List V} {ds : List D} {i : Nat} {v : V} (s : StT K B F H σ τ vs ds) (h : σ[i]? = some (some v)) : StT K (B.io1 i v) F H σ τ vs ds := by
  obtain ⟨f1, f2, a, b, w, io⟩ := s
  exact ⟨f1, f2, a, b, ⟨w.nd, w.dF, w.dR, w.sF, w.sR, w.s0, w.fr⟩, fun p hp => by
    rcases List.mem_cons.mp hp with rfl | hp
    · exact h
    · exact io p hp⟩
end
end Bn
namespace Bn
open PySem PySem.Spec PyProof.Rows L2
section
variable {X : Cx} {B : Bx} {W : WX}
end
end Bn
namespace Bn
open PySem PySem.Spec PyProof.Rows L2
section
variable {X : Cx} {B : Bx} {W : WX}
end
end Bn
namespace Bn
open PySem PySem.Spec PyProof.Rows L2
section
variable {K : PySem.W.Frag} {ca : Str → Addr} {F H : Hp} {f : Str}
end
section
variable {K : PySem.W.Frag} {B : Bx} {F H : Hp} {σ : L2.St} {τ : Env} {vs us : List V} {ds es : List D} {v : V} {d : D}
end
section
variable {X : Cx} {B : Bx} {W : WX}
theorem slen {K : PySem.W.Frag} {F H : Hp} {σ : L2.St} {τ : Env} {vs : List V} {ds : List D} (s : StT K B F H σ τ vs ds) : σ.length = τ.length := by
  obtain ⟨_, _, A, _⟩ := s; exact A.length
end
section
variable {P : Program} {w : World} {K : PySem.W.Frag} {mg : Str → Option Value} {base : Heap} {ca : Str → Addr}
structure MkI (P : Program) (w : World) (K : PySem.W.Frag) (mg : Str → Option Value) (base : Heap) (ca : Str → Addr) (j : Nat) (x : Str) (g : List D → CR2) : Prop where
  ex : ∃ k f fd ps, k + 1 ≤ j ∧ Mk K (ca x) f ∧ mg x = some (.ref (ca x)) ∧ Binds K fd ps [] ∧ FnOk P w K mg base (L2.CX P w) k f fd ps (spIO K ca 1 g)
structure MFoI (P : Program) (w : World) (K : PySem.W.Frag) (mg : Str → Option Value) (base : Heap) (ca : Str → Addr) (j : Nat) (c m : Str) (g : List D → CR2) : Prop where
  ex : ∃ k f fd ps, k ≤ j ∧ Meth K (ca c) m f ∧ Binds K fd ps [] ∧ FnOk P w K mg base (L2.CX P w) k f fd ps (spIO K ca 1 g)
  cl : Cls K (ca c)
end
section
variable {X : Cx} {B : Bx} {W : WX}
end
section
variable {X : Cx} {B : Bx} {W : WX}
end
section
variable {X : Cx} {B : Bx} {W : WX}
end
section
variable {K : PySem.W.Frag} {ca : Str → Addr} {F H : Hp}
end
section
variable {K : PySem.W.Frag} {B : Bx} {F H : Hp} {σ : L2.St} {τ : Env} {vs us : List V} {ds es : List D} {v : V} {d : D}
end
section
variable {X : Cx} {B : Bx} {W : WX}
end
end Bn
namespace Bn
open PySem PySem.Spec PyProof.Rows L2
section
variable {K : PySem.W.Frag} {B : Bx} {F H : Hp} {σ : L2.St} {τ : Env} {vs : List V} {ds : List D} {v : V} {d : D}
end
section
variable {X : Cx} {B : Bx} {W : WX}
end
section
variable {X : Cx} {B : Bx} {W : WX}
end
end Bn
namespace Bn
open PySem PySem.Spec PyProof.Rows L2
section
variable {X : Cx}
end
section
variable {X : Cx} {B : Bx} {W : WX}
end
end Bn
namespace Bn
open PySem PySem.Spec PyProof.Rows L2
section
variable {K : PySem.W.Frag} {B : Bx} {F H : Hp} {σ : L2.St} {τ : Env} {vs us : List V} {ds es : List D} {v y : V} {d : D}
end
section
variable {X : Cx} {B : Bx} {W : WX}
end
section
variable {K : PySem.W.Frag} {B : Bx} {F H : Hp} {σ : L2.St} {τ : Env} {vs : List V} {ds : List D} {y : V} {d : D}
end
section
variable {X : Cx} {B : Bx} {W : WX}
end
end Bn
namespace Bn
open PySem PySem.Spec PyProof.Rows L2
section
variable {X : Cx} {B : Bx} {W : WX}
end
end Bn
namespace Bn
open PySem L2
theorem vEq (i j : Int) : gEq (.int i) (.int j) = some (.bl (i == j)) := rfl
theorem vNe (i j : Int) : gNe (.int i) (.int j) = some (.bl (!(i == j))) := rfl
theorem vNe2 (a b c d : Int) : gNe (.tup [.int a, .int b]) (.tup [.int c, .int d]) = some (.bl (!((a == c) && ((b == d) && true)))) := rfl
theorem vIx0 (xs : List D) (d : D) : gIx (.tup (d :: xs)) (.int 0) = some d := by
  show atI (d :: xs) 0 = some d
  unfold atI ixN
  rw [if_pos (by decide), if_pos (by simp)]
  rfl
theorem atI_of {α : Type} {xs : List α} {k : Nat} {i : Int} (e : i = (k : Int)) : atI xs i = xs[k]? := by
  subst e
  unfold atI ixN
  rw [if_pos (by omega)]
  by_cases h : (k : Int) < xs.length
  · rw [if_pos h]; simp
  · rw [if_neg h]
    rw [List.getElem?_eq_none (by omega)]; rfl
theorem vIxT (xs : List D) (k : Nat) : gIx (.tup xs) (.int k) = xs[k]? := atI_of rfl
theorem vLenL (m : Bool) (xs : List D) : gLen [.lst m xs] = some (.int xs.length) := rfl
theorem vLenC (xs : List D) : gLen [.cst xs] = some (.int xs.length) := rfl
theorem vIx1 (xs : List D) (d e : D) : gIx (.tup (d :: e :: xs)) (.int 1) = some e := vIxT (d :: e :: xs) 1
section
variable {α β : Type} {τ τ' : Env} {d : D} {ds : List D} {c : Str} {x : Bool} {i : Nat}
def c0 (r : CR) (τ : Env) : R D := match r with
  | .ok d => .ok d τ
  | _ => .bad
def mxI (i j : Int) : Int := if j > i then j else i
theorem vMax2 {i j : Int} : gMax2 [.int i, .int j] = some (.int (mxI i j)) := rfl
theorem okP_str {i : Str} (h : PySem.PyData.strOk i = true) : okP (.str i) = true := by
  show (true && (PySem.PyData.canLay0 (.str i) && decide (PySem.PyData.depth (.str i) ≤ 64))) = true
  rw [show PySem.PyData.canLay0 (.str i) = true from h]
  rfl
theorem vEqS {i j : Str} (h1 : PySem.PyData.strOk i = true) (h2 : PySem.PyData.strOk j = true) : gEq (.str i) (.str j) = some (.bl (i == j)) := if_pos ⟨okP_str h1, okP_str h2⟩
theorem vNeS {i j : Str} (h1 : PySem.PyData.strOk i = true) (h2 : PySem.PyData.strOk j = true) : gNe (.str i) (.str j) = some (.bl (!(i == j))) := if_pos ⟨okP_str h1, okP_str h2⟩
theorem vCat {xs ys : List D} (h : xs.length + ys.length ≤ 1000000) : catD (.lst false xs) (.lst false ys) = some (.lst true (xs ++ ys)) := if_pos h
end
end Bn
namespace Bn
open PySem L2
structure Ok (n : Nat) (d : D) : Prop where
  h : hasP d = true
  l : (toP d).canLay0 = true
  d : (toP d).depth ≤ n
theorem ok_int {n : Nat} (i : Int) : Ok n (.int i) := ⟨rfl, by simp [toP, PyData.canLay0], by simp [toP, PyData.depth]⟩
theorem ok_str {n : Nat} {i : Str} (h : PyData.strOk i = true) : Ok n (.str i) := ⟨rfl, by simpa [toP, PyData.canLay0] using h, by simp [toP, PyData.depth]⟩
theorem ok_all {n : Nat} : ∀ {ds : List D}, (∀ d ∈ ds, Ok n d) → hasPs ds = true ∧ PyData.canLayAll0 (toPs ds) = true ∧ PyData.depthAll (toPs ds) ≤ n
  | [], _ => ⟨rfl, rfl, Nat.zero_le _⟩
  | d :: ds, h => by
    obtain ⟨h1, h2, h3⟩ := h d List.mem_cons_self
    obtain ⟨k1, k2, k3⟩ := ok_all fun e he => h e (List.mem_cons_of_mem _ he)
    refine ⟨?_, ?_, ?_⟩
    · show (hasP d && hasPs ds) = true
      rw [h1, k1]; rfl
    · show PyData.canLayAll0 (toP d :: toPs ds) = true
      simp [PyData.canLayAll0, h2, k2]
    · show PyData.depthAll (toP d :: toPs ds) ≤ n
      simp only [PyData.depthAll]
      omega
theorem ok_tup {n : Nat} {ds : List D} (h : ∀ d ∈ ds, Ok n d) : Ok (n + 1) (.tup ds) := by
  obtain ⟨h1, h2, h3⟩ := ok_all h
  exact ⟨h1, by simpa [toP, PyData.canLay0] using h2, by simp only [toP, PyData.depth]; omega⟩
theorem ok_lst {n : Nat} {b : Bool} {ds : List D} (h : ∀ d ∈ ds, Ok n d) : Ok (n + 1) (.lst b ds) := by
  obtain ⟨h1, h2, h3⟩ := ok_all h
  exact ⟨h1, by simpa [toP, PyData.canLay0] using h2, by simp only [toP, PyData.depth]; omega⟩
theorem Ok.p {n : Nat} {d : D} (h : Ok n d) (hn : n ≤ 64 := by decide) : okP d = true := by
  unfold okP SeqAt.shaped
  rw [h.h, h.l, decide_eq_true (Nat.le_trans h.d hn)]; rfl
theorem eqP_self {n : Nat} {a b : D} (h : Ok n a) (e : toP b = toP a) : eqP a b = true := by
  unfold eqP
  rw [e]
  exact SeqAt.eqv_refl _ h.l
theorem vEqX {n : Nat} {a b : D} (h : Ok n a) (k : Ok n b) (e : toP b = toP a) (hn : n ≤ 64 := by decide) : gEq a b = some (.bl true) := by
  unfold gEq
  rw [if_pos ⟨h.p hn, k.p hn⟩, eqP_self h e]
theorem vNeX {n : Nat} {a b : D} (h : Ok n a) (k : Ok n b) (e : toP b = toP a) (hn : n ≤ 64 := by decide) : gNe a b = some (.bl false) := by
  unfold gNe
  rw [if_pos ⟨h.p hn, k.p hn⟩, eqP_self h e]; rfl
section
variable {g : D → Env → Option Env} {b : MS} {own : List Nat} {t : MT} {m : ME}
def All2 (P : D → D → Prop) : List D → List D → Prop
  | [], [] => True
  | x :: xs, y :: ys => P x y ∧ All2 P xs ys
  | _, _ => False
theorem All2.length {P : D → D → Prop} : ∀ {xs ys : List D}, All2 P xs ys → xs.length = ys.length
  | [], [], _ => rfl
  | _ :: _, [], h => h.elim
  | [], _ :: _, h => h.elim
  | _ :: _, _ :: _, h => by rw [List.length_cons, List.length_cons, h.2.length]
theorem All2.right {P : D → D → Prop} {Q : D → Prop} (hP : ∀ d e, P d e → Q e) : ∀ {items es : List D}, All2 P items es → ∀ e ∈ es, Q e
  | [], [], _ => by simp
  | _ :: _, [], h => h.elim
  | [], _ :: _, h => h.elim
  | d :: _, e :: es, ⟨h1, h2⟩ => by
    intro x hx
    rcases List.mem_cons.mp hx with rfl | hx
    · exact hP _ _ h1
    · exact All2.right hP h2 x hx
end
section
variable {ma : MA} {g : D → Env → Option Env} {b : MS} {own : List Nat} {t : MT} {m : ME} {τ τ1 τ2 : Env}
end
end Bn
namespace Bn
open PySem PySem.Spec PyProof.Rows L2
open HandSHeadRun (frNat frNat_eq)
end Bn
namespace Bn
open PySem PySem.Spec PyProof.Rows L2
section
variable {X : Cx} {B : Bx} {W : WX}
def splitR (a b : Str) (τ : Env) : R D := if b.length ≠ 0 ∧ a.length ≤ 1000000 then .ok (.lst true ((Txt.split a b).map D.str)) τ else .bad
def eSplit (a b : ME) : ME := fun τ => (a τ).bind fun x τ1 => match x with
  | .str z => (b τ1).bind fun y τ2 => (match y with
    | .str w => splitR z w τ2
    | _ => .bad)
  | _ => .bad
theorem newStrs {K : PySem.W.Frag} {F H : Hp} {σ : L2.St} {τ : Env} {vs : List V} {ds : List D} (s : StT K B F H σ τ vs ds) (ys : List Str) {p : Addr} (hp : H p = none) : StT K B F (upd H p (.lst (ys.map V.str))) σ τ (.ref p :: vs) (.lst true (ys.map D.str) :: ds) := by
  have key : ∀ ys : List Str, RepL K B.ca F (ys.map D.str) (ys.map V.str) := fun ys => by
    induction ys with
    | nil => exact rfl
    | cons y ys ih => exact ⟨_, _, rfl, rfl, ih⟩
  have s2 := s.pushL (key ys)
  exact StT.newLst (us := ys.map V.str) (es := ys.map D.str) s2 (by rw [List.length_map, List.length_map]) hp
theorem e_split {o e : Expr} {apos pos : Pos} {a b : ME} (ho : PE X o (rdE X.K B W a)) (he : PE X e (rdE X.K B W b)) (hs : starEach [e] X.env = (false, eval e X.env) :: starEach [] X.env := by rfl) (hbase : attributeBase o "split" X.env (eval o X.env) = eval o X.env := by rfl)
    (hfew : ((backTo pos (starEach [e] X.env)).all (fun x => !x.1) && (backToKw pos (keywordEach [] X.env)).all (fun x => x.1.isSome)
      && decide (([e] : List Expr).length + ([] : List Keyword).length + (if ([] : List Keyword).isEmpty then 0 else 1) < 30)) = true := by rfl)
    (hline : (apos.endLine == pos.line) = true := by rfl) (hplain : (backTo pos (starEach [] X.env)).any (·.1) = false := by rfl) :
    PE X (.Call (.Attribute o "split" apos) [e] [] pos) (rdE X.K B W (eSplit a b)) := PE.imp (pe_bm PySem.F.plainAttrs_str PySem.F.slot_str_split PySem.F.type_str_split mt_split ho (pa_cons he pa_nil hs) hbase hfew hline hs hplain) fun σ H Q ⟨F, τ, vs, ds, s, k⟩ => by
  refine ⟨F, τ, vs, ds, s, post_imp (post_bind k) (fun d τ1 q v F1 H1 s1 => ?_) fun _ _ q => q⟩
  cases d with
  | str z =>
    cases (show v = .str z from s1.topF rfl)
    refine ⟨rfl, F1, τ1, _, _, s1, post_imp (post_bind q) (fun d τ2 q w F2 H2 s2 => ?_) fun c τ2 q F2 H2 s2 => q F2 H2 s2.pop⟩
    cases d with
    | str y =>
      cases (show w = .str y from s2.topF rfl)
      by_cases hz : y.length ≠ 0 ∧ z.length ≤ 1000000
      · replace q : post _ _ (splitR z y τ2) := q
        unfold splitR at q
        rw [if_pos hz] at q
        refine ⟨z, y, rfl, rfl, by simpa using hz.1, ?_, fun p hp => ?_⟩
        · have := hz.2; rw [sizeLine_eq]; omega
        · exact q _ _ _ (newStrs s2.pop.pop _ hp)
      · replace q : post _ _ (splitR z y τ2) := q
        unfold splitR at q
        rw [if_neg hz] at q; exact False.elim q
    | _ => exact False.elim q
  | _ => exact False.elim q
end
def gIntS : List D → Option D
  | [.str a] => if a.length ≤ 640 then (intText? a).map D.int else none
  | _ => none
theorem sIntS {K : PySem.W.Frag} : CallS K (fun xs H Q => ∃ a n, xs = [.str a] ∧ PySem.intText? a = some n ∧ a.length ≤ 640 ∧ Q (.int n) H) gIntS := by
  intro ca F H xs as d f1 Q sm hx e q
  match as, e, hx with
  | [.str a], e, hx =>
    obtain ⟨v, r, g1, g2, rfl, h1, h2, _⟩ := hx
    cases (show r = [] from h2.1)
    cases (show v = .str a from h1.1)
    have e : (if a.length ≤ 640 then (intText? a).map D.int else none) = some d := e
    by_cases c : a.length ≤ 640
    · rw [if_pos c] at e
      obtain ⟨n, e1, e2⟩ := Option.map_eq_some_iff.mp e
      subst e2
      exact ⟨a, n, rfl, e1, c, q (.int n) _ (Rep.o (d := .int n) rfl)⟩
    · rw [if_neg c] at e; cases e
end Bn
namespace Bn
open PySem PySem.Spec PyProof.Rows L2
inductive N (α : Type) where
  | ok (a : α) | ex (c : Str) | bad
inductive NS (σ κ ρ : Type) where
  | nx (s : σ) | bk (l : κ) | ct (l : κ) | rt (r : ρ) | ex (c : Str) | bad
def N.bind {α β : Type} : N α → (α → N β) → N β
  | .ok a, k => k a
  | .ex c, _ => .ex c
  | .bad, _ => .bad
def N.s {α σ κ ρ : Type} : N α → (α → NS σ κ ρ) → NS σ κ ρ
  | .ok a, k => k a
  | .ex c, _ => .ex c
  | .bad, _ => .bad
def NS.s {σ σ' κ ρ : Type} : NS σ κ ρ → (σ → NS σ' κ ρ) → NS σ' κ ρ
  | .nx a, k => k a
  | .bk l, _ => .bk l
  | .ct l, _ => .ct l
  | .rt r, _ => .rt r
  | .ex c, _ => .ex c
  | .bad, _ => .bad
def NS.f {σ κ ρ : Type} : NS σ κ ρ → N ρ
  | .rt r => .ok r
  | .ex c => .ex c
  | _ => .bad
def NS.fz {σ κ ρ : Type} (z : ρ) : NS σ κ ρ → N ρ
  | .rt r => .ok r
  | .nx _ => .ok z
  | .ex c => .ex c
  | _ => .bad
def N.o {α : Type} : Option α → N α
  | some a => .ok a
  | none => .bad
theorem N.bind_ok {α β : Type} (a : α) (k : α → N β) : (N.ok a).bind k = k a := of_eq_true (eq_self (k a))
theorem N.bind_assoc {α β γ : Type} (v : N α) (f : α → N β) (g : β → N γ) : (v.bind f).bind g = v.bind fun a => (f a).bind g := by cases v <;> rfl
theorem N.s_ok {α σ κ ρ : Type} (a : α) (k : α → NS σ κ ρ) : (N.ok a).s k = k a := of_eq_true (eq_self (k a))
theorem N.s_ex {α σ κ ρ : Type} (c : Str) (k : α → NS σ κ ρ) : (N.ex c).s k = .ex c := rfl
theorem NS.s_ex {σ σ' κ ρ : Type} (c : Str) (k : σ → NS σ' κ ρ) : (NS.ex c).s k = .ex c := rfl
theorem NS.f_ex {σ κ ρ : Type} (c : Str) : (NS.ex c : NS σ κ ρ).f = .ex c := rfl
abbrev EP (α : Type) := α → D → Prop
abbrev EL (α : Type) := α → List D → Prop
inductive Al {α : Type} (e : EP α) : List α → List D → Prop
  | nil : Al e [] []
  | cons {x : α} {d : D} {xs : List α} {ds : List D} : e x d → Al e xs ds → Al e (x :: xs) (d :: ds)
def eI : EP Int := fun i d => d = .int i
def eB : EP Bool := fun b d => d = .bl b
def eS : EP Str := fun s d => d = .str s
def eN : EP Unit := fun _ d => d = .non
def eCn : EP (List Int) := fun ns d => d = .cst (ns.map D.int)
def eD : EP D := fun x d => d = x ∧ isFz x = true
def eLi (m : Bool) {α : Type} (e : EP α) : EP (List α) := fun xs d => ∃ ds, d = .lst m ds ∧ Al e xs ds
def eLq {α : Type} (e e' : EP α) : EP (List α) := fun xs d => eLi true e xs d ∨ eLi false e' xs d
def eTu {α : Type} (es : EL α) : EP α := fun x d => ∃ ds, d = .tup ds ∧ es x ds
def eCons {α β : Type} (e : EP α) (es : EL β) : EL (α × β) := fun p ds => ∃ d r, ds = d :: r ∧ e p.1 d ∧ es p.2 r
def eOne {α : Type} (e : EP α) : EL α := fun x ds => ∃ d, ds = [d] ∧ e x d
def Zf {α : Type} (e : EP α) : Prop := ∀ x d, e x d → isFz d = true
def Fz {α : Type} (e e' : EP α) : Prop := ∀ x d, e x d → e' x (freeze d)
def FzL {α : Type} (e e' : EL α) : Prop := ∀ x ds, e x ds → e' x (freezeL ds)
theorem freeze_of {d : D} (h : isFz d = true) : freeze d = d := by
  cases d with
  | lst m xs => cases m with
    | true => cases h
    | false => rfl
  | obj m c ns xs => cases m with
    | true => cases h
    | false => rfl
  | dct m ks xs => cases m with
    | true => cases h
    | false => rfl
  | tpo xs => cases h
  | _ => rfl
theorem zf_I : Zf eI := fun _ _ h => by rw [show _ = _ from h]; rfl
theorem zf_B : Zf eB := fun _ _ h => by rw [show _ = _ from h]; rfl
theorem zf_S : Zf eS := fun _ _ h => by rw [show _ = _ from h]; rfl
theorem zf_C : Zf eCn := fun _ _ h => by rw [show _ = _ from h]; rfl
theorem zf_D : Zf eD := fun _ _ h => by rw [h.1]; exact h.2
theorem zf_L {α : Type} {e : EP α} : Zf (eLi false e) := fun _ _ ⟨_, h, _⟩ => by rw [h]; rfl
theorem zf_T {α : Type} {e : EL α} : Zf (eTu e) := fun _ _ ⟨_, h, _⟩ => by rw [h]; rfl
theorem fz_z {α : Type} {e : EP α} (h : Zf e) : Fz e e := fun x d q => by rw [freeze_of (h x d q)]; exact q
theorem Al.fz {α : Type} {e e' : EP α} (h : Fz e e') : ∀ {xs : List α} {ds : List D}, Al e xs ds → Al e' xs (freezeL ds)
  | _, _, .nil => .nil
  | _, _, .cons a b => .cons (h _ _ a) (b.fz h)
theorem fz_L {α : Type} {e e' : EP α} (h : Fz e e') : Fz (eLi true e) (eLi false e') := fun _ _ ⟨ds, q, a⟩ => by rw [q]; exact ⟨_, rfl, a.fz h⟩
theorem fz_Lq {α : Type} {e e' : EP α} (h : Fz e e') : Fz (eLq e e') (eLi false e') := fun x d q => by
  rcases q with q | q
  · exact fz_L h x d q
  · exact fz_z zf_L x d q
theorem fzl_cons {α β : Type} {e e' : EP α} {es es' : EL β} (h : Fz e e') (k : FzL es es') : FzL (eCons e es) (eCons e' es') := fun p ds ⟨d, r, q, a, b⟩ => by
  rw [q]; exact ⟨_, _, rfl, h _ _ a, k _ _ b⟩
theorem fzl_one {α : Type} {e e' : EP α} (h : Fz e e') : FzL (eOne e) (eOne e') := fun p ds ⟨d, q, a⟩ => by
  rw [q]; exact ⟨_, rfl, h _ _ a⟩
theorem Al.length {α : Type} {e : EP α} : ∀ {xs : List α} {ds : List D}, Al e xs ds → ds.length = xs.length
  | _, _, .nil => rfl
  | _, _, .cons _ b => congrArg (· + 1) b.length
theorem Al.append {α : Type} {e : EP α} : ∀ {xs ys : List α} {ds es : List D}, Al e xs ds → Al e ys es → Al e (xs ++ ys) (ds ++ es)
  | _, _, _, _, .nil, k => k
  | _, _, _, _, .cons a b, k => .cons a (b.append k)
theorem Al.imp {α : Type} {e e' : EP α} (h : ∀ x d, e x d → e' x d) : ∀ {xs : List α} {ds : List D}, Al e xs ds → Al e' xs ds
  | _, _, .nil => .nil
  | _, _, .cons a b => .cons (h _ _ a) (b.imp h)
theorem Al.drop {α : Type} {e : EP α} : ∀ (n : Nat) {xs : List α} {ds : List D}, Al e xs ds → Al e (xs.drop n) (ds.drop n)
  | 0, _, _, h => h
  | _ + 1, _, _, .nil => .nil
  | n + 1, _, _, .cons _ b => b.drop n
theorem Al.take {α : Type} {e : EP α} : ∀ (n : Nat) {xs : List α} {ds : List D}, Al e xs ds → Al e (xs.take n) (ds.take n)
  | 0, _, _, h => .nil
  | _ + 1, _, _, .nil => .nil
  | n + 1, _, _, .cons a b => .cons a (b.take n)
theorem Al.get {α : Type} {e : EP α} : ∀ (n : Nat) {xs : List α} {ds : List D} {x : α}, Al e xs ds → xs[n]? = some x → ∃ d, ds[n]? = some d ∧ e x d
  | _, _, _, _, .nil, h => by simp at h
  | 0, _, _, _, .cons a b, h => by simp at h; subst h; exact ⟨_, rfl, a⟩
  | n + 1, _, _, _, .cons a b, h => by simpa using b.get n (by simpa using h)
theorem al_ints (ns : List Int) : Al eI ns (ns.map D.int) := by
  induction ns with
  | nil => exact .nil
  | cons n ns ih => exact .cons rfl ih
theorem Al.ints {ns : List Int} {ds : List D} (h : Al eI ns ds) : ds = ns.map D.int := by
  induction h with
  | nil => rfl
  | cons a b ih => rw [show _ = _ from a, ih]; rfl
theorem Al.strs {ns : List Str} {ds : List D} (h : Al eS ns ds) : ds = ns.map D.str := by
  induction h with
  | nil => rfl
  | cons a b ih => rw [show _ = _ from a, ih]; rfl
inductive Slot : Type 1
  | any
  | val {α : Type} (e : EP α) (x : α)
def Slot.h : Slot → Option D → Prop
  | .any, _ => True
  | .val e x, o => ∃ d, o = some d ∧ e x d
def Is : List Slot → Env → Prop
  | [], τ => τ = []
  | p :: ps, τ => ∃ o r, τ = o :: r ∧ p.h o ∧ Is ps r
def nth : List Slot → Nat → Slot
  | [], _ => .any
  | p :: _, 0 => p
  | _ :: ps, n + 1 => nth ps n
def put : List Slot → Nat → Slot → List Slot
  | [], _, _ => []
  | _ :: ps, 0, q => q :: ps
  | p :: ps, n + 1, q => p :: put ps n q
theorem Is.get {α : Type} {e : EP α} {x : α} : ∀ {G : List Slot} {τ : Env} {i : Nat}, Is G τ → nth G i = .val e x → ∃ d, τ.getD i none = some d ∧ e x d
  | [], _, _, _, q => by cases q
  | p :: ps, _, 0, ⟨o, r, h, h1, _⟩, q => by
    have q : p = .val e x := q
    subst q; subst h
    exact h1
  | p :: ps, _, n + 1, ⟨o, r, h, _, h2⟩, q => by
    subst h
    exact Is.get (i := n) h2 q
theorem Is.put {q : Slot} {o : Option D} (hq : q.h o) : ∀ {G : List Slot} {τ : Env} (i : Nat), Is G τ → Is (put G i q) (τ.set i o)
  | [], _, _, h => by rw [show _ = [] from h]; exact rfl
  | p :: ps, _, 0, ⟨_, r, h, h1, h2⟩ => by subst h; exact ⟨o, r, rfl, hq, h2⟩
  | p :: ps, _, n + 1, ⟨_, r, h, h1, h2⟩ => by subst h; exact ⟨_, _, rfl, h1, Is.put hq n h2⟩
theorem Is.len : ∀ {G : List Slot} {τ : Env}, Is G τ → τ.length = G.length
  | [], _, h => by rw [show _ = [] from h]; rfl
  | p :: ps, _, ⟨_, r, h, h1, h2⟩ => by subst h; exact congrArg (· + 1) h2.len
def Ent (G G' : List Slot) : Prop := ∀ τ, Is G τ → Is G' τ
def Se (p q : Slot) : Prop := ∀ o, p.h o → q.h o
theorem se_id {p : Slot} : Se p p := fun _ h => h
theorem se_any {p : Slot} : Se p .any := fun _ _ => trivial
theorem se_e {α : Type} {e e' : EP α} {x : α} (h : ∀ x d, e x d → e' x d) : Se (.val e x) (.val e' x) := fun _ ⟨d, a, b⟩ => ⟨d, a, h _ _ b⟩
theorem ent_id {G : List Slot} : Ent G G := fun _ h => h
theorem ent_nil : Ent [] [] := fun _ h => h
theorem ent_cons {p q : Slot} {G G' : List Slot} (h : Se p q) (k : Ent G G') : Ent (p :: G) (q :: G') := fun _ ⟨o, r, a, b, c⟩ => ⟨o, r, a, h _ b, k _ c⟩
def se_lo {α : Type} {e e' : EP α} : ∀ x d, eLi true e x d → eLq e e' x d := fun _ _ h => .inl h
def se_lf {α : Type} {e e' : EP α} : ∀ x d, eLi false e' x d → eLq e e' x d := fun _ _ h => .inr h
def Sat {α β : Type} (r : R β) (v : N α) (P : α → β → Env → Prop) (X : Env → Prop) : Prop := match v with
  | .ok a => ∃ d τ', r = .ok d τ' ∧ P a d τ'
  | .ex c => ∃ τ', r = .ex c τ' ∧ X τ'
  | .bad => True
theorem Sat.bind {α β α' β' : Type} {r : R β} {v : N α} {P : α → β → Env → Prop} {X : Env → Prop} {k : β → Env → R β'} {w : α → N α'} {Q : α' → β' → Env → Prop} (h : Sat r v P X) (q : ∀ a d τ, P a d τ → Sat (k d τ) (w a) Q X) : Sat (r.bind k) (v.bind w) Q X := by
  cases v with
  | ok a =>
    obtain ⟨d, τ', e, p⟩ := h
    rw [e]
    exact q a d τ' p
  | ex c =>
    obtain ⟨τ', e, p⟩ := h
    rw [e]
    exact ⟨τ', rfl, p⟩
  | bad => trivial
def Noex {α : Type} (v : N α) : Prop := ∀ c, v ≠ .ex c
theorem noex_ok {α : Type} {a : α} : Noex (N.ok a) := fun c h => by cases h
theorem noex_bind {α β : Type} {v : N α} {k : α → N β} (h : Noex v) (q : ∀ a, Noex (k a)) : Noex (v.bind k) := fun c z => by
  cases v with
  | ok a => exact q a c z
  | ex c' => exact h c' rfl
  | bad => cases z
def VZ {α : Type} (m : MZ) (G : List Slot) (v : N α) (e : EP α) : Prop := Noex v ∧ ∀ τ, Is G τ → ∀ a, v = .ok a → ∃ d, m τ = some d ∧ e a d
def VE {α : Type} (m : ME) (G : List Slot) (v : N α) (e : EP α) (G' : List Slot) (X : Env → Prop) : Prop := ∀ τ, Is G τ → Sat (m τ) v (fun a d τ' => e a d ∧ Is G' τ') X
def VT (m : MT) (G : List Slot) (v : N Bool) (G' : List Slot) (X : Env → Prop) : Prop := ∀ τ, Is G τ → Sat (m τ) v (fun a d τ' => a = d ∧ Is G' τ') X
def VA {α : Type} (m : MA) (G : List Slot) (v : N α) (e : EL α) (G' : List Slot) (X : Env → Prop) : Prop := ∀ τ, Is G τ → Sat (m τ) v (fun a d τ' => e a d ∧ Is G' τ') X
def VP (m : Env → R (Option Int)) (G : List Slot) (v : N (Option Int)) (G' : List Slot) (X : Env → Prop) : Prop := ∀ τ, Is G τ → Sat (m τ) v (fun a d τ' => a = d ∧ Is G' τ') X
section
variable {α β γ : Type} {G G1 G2 G' : List Slot} {X : Env → Prop}
theorem N.bind_of {v : N α} {k : α → N β} {b : β} (h : v.bind k = .ok b) : ∃ a, v = .ok a ∧ k a = .ok b := by
  cases v with
  | ok a => exact ⟨a, rfl, h⟩
  | ex c => cases h
  | bad => cases h
theorem vz_var {i : Nat} {e : EP α} {x : α} (h : nth G i = .val e x := by rfl) : VZ (zVar i) G (.ok x) e := ⟨noex_ok, fun τ s a q => by
  cases q; exact s.get h⟩
theorem vz_c {d : D} {e : EP α} {x : α} (h : e x d) : VZ (zC d) G (.ok x) e := ⟨noex_ok, fun τ s a q => by
  cases q; exact ⟨d, rfl, h⟩⟩
theorem vz_i {i : Int} : VZ (zC (.int i)) G (.ok i) eI := vz_c rfl
theorem vz_b {b : Bool} : VZ (zC (.bl b)) G (.ok b) eB := vz_c rfl
theorem vz_s {s : Str} : VZ (zC (.str s)) G (.ok s) eS := vz_c rfl
theorem vz_d {d : D} (h : isFz d = true := by rfl) : VZ (zC d) G (.ok d) eD := vz_c ⟨rfl, h⟩
def Op (g : D → D → Option D) (f : α → β → N γ) (e1 : EP α) (e2 : EP β) (e3 : EP γ) : Prop := ∀ a b d1 d2 c, e1 a d1 → e2 b d2 → f a b = .ok c → ∃ d, g d1 d2 = some d ∧ e3 c d
def Un (g : D → Option D) (f : α → N γ) (e1 : EP α) (e3 : EP γ) : Prop := ∀ a d1 c, e1 a d1 → f a = .ok c → ∃ d, g d1 = some d ∧ e3 c d
def Cl (g : List D → Option D) (f : α → N γ) (e1 : EL α) (e3 : EP γ) : Prop := ∀ a d1 c, e1 a d1 → f a = .ok c → ∃ d, g d1 = some d ∧ e3 c d
def Nx2 (f : α → β → N γ) : Prop := ∀ a b c, f a b ≠ .ex c
def Nx1 (f : α → N γ) : Prop := ∀ a c, f a ≠ .ex c
theorem vz_2 {m n : MZ} {g : D → D → Option D} {f : α → β → N γ} {e1 : EP α} {e2 : EP β} {e3 : EP γ} {v1 : N α} {v2 : N β} {v : N γ} (h1 : VZ m G v1 e1) (h2 : VZ n G v2 e2) (o : Op g f e1 e2 e3) (nx : Nx2 f) (hv : v = v1.bind fun a => v2.bind fun b => f a b := by first | with_reducible rfl | simp only [N.bind_ok, N.bind_assoc] | rfl) : VZ (Bn.z2 g m n) G v e3 := ⟨by rw [hv]; exact noex_bind h1.1 fun a => noex_bind h2.1 fun b => nx a b, fun τ s c q => by
  rw [hv] at q
  obtain ⟨a, ea, q⟩ := N.bind_of q
  obtain ⟨b, eb, q⟩ := N.bind_of q
  obtain ⟨d1, k1, k2⟩ := h1.2 τ s a ea
  obtain ⟨d2, l1, l2⟩ := h2.2 τ s b eb
  obtain ⟨d, p1, p2⟩ := o a b d1 d2 c k2 l2 q
  exact ⟨d, by unfold Bn.z2; rw [k1, l1]; exact p1, p2⟩⟩
theorem vz_1 {m : MZ} {g : D → Option D} {f : α → N γ} {e1 : EP α} {e3 : EP γ} {v1 : N α} {v : N γ} (h1 : VZ m G v1 e1) (o : Un g f e1 e3) (nx : Nx1 f) (hv : v = v1.bind fun a => f a := by first | with_reducible rfl | simp only [N.bind_ok, N.bind_assoc] | rfl) : VZ (Bn.z1 g m) G v e3 := ⟨by rw [hv]; exact noex_bind h1.1 fun a => nx a, fun τ s c q => by
  rw [hv] at q
  obtain ⟨a, ea, q⟩ := N.bind_of q
  obtain ⟨d1, k1, k2⟩ := h1.2 τ s a ea
  obtain ⟨d, p1, p2⟩ := o a d1 c k2 q
  exact ⟨d, by unfold Bn.z1; rw [k1]; exact p1, p2⟩⟩
def VZA (m : Env → Option (List D)) (G : List Slot) (v : N α) (e : EL α) : Prop := Noex v ∧ ∀ τ, Is G τ → ∀ a, v = .ok a → ∃ d, m τ = some d ∧ e a d
theorem vza_one {m : MZ} {e : EP α} {v : N α} (h : VZ m G v e) : VZA (zaCons m zaNil) G v (eOne e) := ⟨h.1, fun τ s a q => by
  obtain ⟨d, k1, k2⟩ := h.2 τ s a q
  exact ⟨[d], by unfold zaCons; rw [k1]; rfl, d, rfl, k2⟩⟩
theorem vza_cons {m : MZ} {n : Env → Option (List D)} {e : EP α} {es : EL β} {v : N α} {w : N β} {u : N (α × β)} (h : VZ m G v e) (k : VZA n G w es) (hv : u = v.bind fun a => w.bind fun b => .ok (a, b) := by first | with_reducible rfl | simp only [N.bind_ok, N.bind_assoc] | rfl) : VZA (zaCons m n) G u (eCons e es) := ⟨by rw [hv]; exact noex_bind h.1 fun a => noex_bind k.1 fun b => noex_ok, fun τ s a q => by
  rw [hv] at q
  obtain ⟨a, ea, q⟩ := N.bind_of q
  obtain ⟨b, eb, q⟩ := N.bind_of q
  cases q
  obtain ⟨d, k1, k2⟩ := h.2 τ s a ea
  obtain ⟨r, l1, l2⟩ := k.2 τ s b eb
  exact ⟨d :: r, by unfold zaCons; rw [k1, l1]; rfl, d, r, rfl, k2, l2⟩⟩
theorem vz_call {m : Env → Option (List D)} {g : List D → Option D} {f : α → N γ} {ea : EL α} {e3 : EP γ} {v1 : N α} {v : N γ} (h : VZA m G v1 ea) (o : Cl g f ea e3) (nx : Nx1 f) (hv : v = v1.bind fun a => f a := by first | with_reducible rfl | simp only [N.bind_ok, N.bind_assoc] | rfl) : VZ (zC' g m) G v e3 := ⟨by rw [hv]; exact noex_bind h.1 fun a => nx a, fun τ s c q => by
  rw [hv] at q
  obtain ⟨a, ea', q⟩ := N.bind_of q
  obtain ⟨d1, k1, k2⟩ := h.2 τ s a ea'
  obtain ⟨d, p1, p2⟩ := o a d1 c k2 q
  exact ⟨d, by unfold zC'; rw [k1]; exact p1, p2⟩⟩
theorem ve_z {m : MZ} {v : N α} {e : EP α} (h : VZ m G v e) (z : Zf e) : VE (eZ m) G v e G X := fun τ s => by
  cases v with
  | ok a =>
    obtain ⟨d, k1, k2⟩ := h.2 τ s a rfl
    refine ⟨d, τ, ?_, k2, s⟩
    unfold eZ
    rw [k1]
    show (if isFz d = true then _ else _) = _
    rw [if_pos (z _ _ k2)]
  | ex c => exact absurd rfl (h.1 c)
  | bad => trivial
theorem ve_var {i : Nat} {e e' : EP α} {x : α} (z : Fz e e') (h : nth G i = .val e x := by rfl) : VE (eVar i) G (.ok x) e' (put G i (.val e' x)) X := fun τ s => by
  obtain ⟨d, k1, k2⟩ := s.get h
  have k3 := z _ _ k2
  by_cases c : isFz d = true
  · refine ⟨d, τ, ?_, ?_, ?_⟩
    · unfold eVar; rw [k1]
      show (if isFz d = true then _ else _) = _
      rw [if_pos c]
    · rw [freeze_of c] at k3; exact k3
    · have e1 : τ.set i (some d) = τ := by
        apply List.ext_getElem?
        intro j
        rw [List.getElem?_set]
        split
        · rename_i q; subst q; split
          · exact (getD_some k1).symm
          · rename_i hl; rw [List.getElem?_eq_none (by omega)]
        · rfl
      have := Is.put (q := Slot.val e' x) (o := some d) (show Slot.h _ _ from ⟨d, rfl, by rw [freeze_of c] at k3; exact k3⟩) i s
      rw [e1] at this
      exact this
  · refine ⟨freeze d, τ.set i (some (freeze d)), ?_, k3, Is.put (q := Slot.val e' x) (o := some (freeze d)) (show Slot.h _ _ from ⟨_, rfl, k3⟩) i s⟩
    unfold eVar; rw [k1]
    show (if isFz d = true then _ else _) = _
    rw [if_neg c]
theorem ve_varF {i : Nat} {e : EP α} {x : α} (z : Zf e) (h : nth G i = .val e x := by rfl) : VE (eVar i) G (.ok x) e G X := fun τ s => by
  obtain ⟨d, k1, k2⟩ := s.get h
  refine ⟨d, τ, ?_, k2, s⟩
  unfold eVar; rw [k1]
  show (if isFz d = true then _ else _) = _
  rw [if_pos (z _ _ k2)]
theorem ve_mv {i : Nat} {e : EP α} {x : α} (h : nth G i = .val e x := by rfl) : VE (eMv i) G (.ok x) e (put G i .any) X := fun τ s => by
  obtain ⟨d, k1, k2⟩ := s.get h
  exact ⟨d, τ.set i none, by unfold eMv; rw [k1], k2, Is.put (q := Slot.any) (o := none) (show Slot.h _ _ from True.intro) i s⟩
theorem sat_ofO {o : Option D} {τ : Env} {v : N γ} {e : EP γ} {G : List Slot} (z : Zf e) (s : Is G τ) (nx : ∀ c, v ≠ .ex c) (h : ∀ c, v = .ok c → ∃ d, o = some d ∧ e c d) : Sat (ofO o τ) v (fun a d τ' => e a d ∧ Is G τ') X := by
  cases v with
  | ok c =>
    obtain ⟨d, k1, k2⟩ := h c rfl
    refine ⟨d, τ, ?_, k2, s⟩
    rw [k1]
    show (if isFz d = true then _ else _) = _
    rw [if_pos (z _ _ k2)]
  | ex c => exact absurd rfl (nx c)
  | bad => trivial
theorem ve_2 {m n : ME} {g : D → D → Option D} {f : α → β → N γ} {e1 : EP α} {e2 : EP β} {e3 : EP γ} {v1 : N α} {v2 : N β} {v : N γ} (h1 : VE m G v1 e1 G1 X) (h2 : VE n G1 v2 e2 G2 X) (o : Op g f e1 e2 e3) (z : Zf e3) (nx : Nx2 f) (hv : v = v1.bind fun a => v2.bind fun b => f a b := by first | with_reducible rfl | simp only [N.bind_ok, N.bind_assoc] | rfl) : VE (Bn.e2 g m n) G v e3 G2 X := fun τ s => by
  rw [hv]
  exact (h1 τ s).bind fun a d1 τ1 ⟨k1, s1⟩ => (h2 τ1 s1).bind fun b d2 τ2 ⟨k2, s2⟩ => sat_ofO z s2 (nx a b) fun c q => o a b d1 d2 c k1 k2 q
theorem ve_1 {m : ME} {g : D → Option D} {f : α → N γ} {e1 : EP α} {e3 : EP γ} {v1 : N α} {v : N γ} (h1 : VE m G v1 e1 G1 X) (o : Un g f e1 e3) (z : Zf e3) (nx : Nx1 f) (hv : v = v1.bind fun a => f a := by first | with_reducible rfl | simp only [N.bind_ok, N.bind_assoc] | rfl) : VE (Bn.e1 g m) G v e3 G1 X := fun τ s => by
  rw [hv]
  exact (h1 τ s).bind fun a d1 τ1 ⟨k1, s1⟩ => sat_ofO z s1 (nx a) fun c q => o a d1 c k1 q
theorem va_one {m : ME} {e : EP α} {v : N α} (h : VE m G v e G1 X) : VA (aCons m aNil) G v (eOne e) G1 X := fun τ s => by
  have : v = v.bind N.ok := by cases v <;> rfl
  rw [this]
  exact (h τ s).bind fun a d τ1 ⟨k, s1⟩ => ⟨[d], τ1, rfl, ⟨d, rfl, k⟩, s1⟩
theorem va_cons {m : ME} {n : MA} {e : EP α} {es : EL β} {v : N α} {w : N β} {u : N (α × β)} (h : VE m G v e G1 X) (k : VA n G1 w es G2 X) (hv : u = v.bind fun a => w.bind fun b => .ok (a, b) := by first | with_reducible rfl | simp only [N.bind_ok, N.bind_assoc] | rfl) : VA (aCons m n) G u (eCons e es) G2 X := fun τ s => by
  rw [hv]
  exact (h τ s).bind fun a d τ1 ⟨k1, s1⟩ => (k τ1 s1).bind fun b ds τ2 ⟨k2, s2⟩ => ⟨d :: ds, τ2, rfl, ⟨d, ds, rfl, k1, k2⟩, s2⟩
theorem ve_c {m : MA} {g : List D → Option D} {f : α → N γ} {ea : EL α} {e3 : EP γ} {v1 : N α} {v : N γ} (h : VA m G v1 ea G1 X) (o : Cl g f ea e3) (z : Zf e3) (nx : Nx1 f) (hv : v = v1.bind fun a => f a := by first | with_reducible rfl | simp only [N.bind_ok, N.bind_assoc] | rfl) : VE (eC g m) G v e3 G1 X := fun τ s => by
  rw [hv]
  exact (h τ s).bind fun a d1 τ1 ⟨k1, s1⟩ => sat_ofO z s1 (nx a) fun c q => o a d1 c k1 q
def Len (ea : EL α) (n : Nat) : Prop := ∀ x ds, ea x ds → ds.length = n
theorem len_one {e : EP α} : Len (eOne e) 1 := fun _ _ ⟨_, h, _⟩ => by rw [h]; rfl
theorem len_cons {e : EP α} {es : EL β} {n : Nat} (h : Len es n) : Len (eCons e es) (n + 1) := fun _ _ ⟨_, _, q, _, k⟩ => by rw [q]; exact congrArg (· + 1) (h _ _ k)
theorem ve_tup {m : MA} {v : N α} {ea ea' : EL α} {n : Nat} (h : VA m G v ea G1 X) (z : FzL ea ea') (l : Len ea n) (hn : n ≤ 1000000 := by decide) : VE (eTup m) G v (eTu ea') G1 X := fun τ s => by
  have : v = v.bind N.ok := by cases v <;> rfl
  rw [this]
  exact (h τ s).bind fun a ds τ1 ⟨k1, s1⟩ => by
    refine ⟨.tup (freezeL ds), τ1, ?_, ⟨_, rfl, z _ _ k1⟩, s1⟩
    show (if _ then _ else _) = _
    rw [if_pos (by rw [l _ _ k1]; exact hn)]
def VL {α : Type} (m : MA) (G : List Slot) (k : Nat) (v : N (List α)) (e : EP α) (G' : List Slot) (X : Env → Prop) : Prop := ∀ τ, Is G τ → Sat (m τ) v (fun a d τ' => (Al e a d ∧ d.length = k) ∧ Is G' τ') X
theorem vl_nil {e : EP α} : VL aNil G 0 (.ok []) e G X := fun τ s => ⟨[], τ, rfl, ⟨.nil, rfl⟩, s⟩
theorem vl_cons {m : ME} {n : MA} {e : EP α} {k : Nat} {v : N α} {w u : N (List α)} (h : VE m G v e G1 X) (q : VL n G1 k w e G2 X) (hv : u = v.bind fun a => w.bind fun b => .ok (a :: b) := by first | with_reducible rfl | simp only [N.bind_ok, N.bind_assoc] | rfl) : VL (aCons m n) G (k + 1) u e G2 X := fun τ s => by
  rw [hv]
  exact (h τ s).bind fun a d τ1 ⟨k1, s1⟩ => (q τ1 s1).bind fun b ds τ2 ⟨k2, s2⟩ => ⟨d :: ds, τ2, rfl, ⟨.cons k1 k2.1, congrArg (· + 1) k2.2⟩, s2⟩
theorem ve_lst {m : MA} {k : Nat} {v : N (List α)} {e : EP α} (h : VL m G k v e G1 X) (hk : k ≤ 1000000 := by decide) : VE (eLst m) G v (eLi true e) G1 X := fun τ s => by
  have : v = v.bind N.ok := by cases v <;> rfl
  rw [this]
  exact (h τ s).bind fun a ds τ1 ⟨k1, s1⟩ => by
    refine ⟨.lst true ds, τ1, ?_, ⟨_, rfl, k1.1⟩, s1⟩
    show (if _ then _ else _) = _
    rw [if_pos (by rw [k1.2]; exact hk)]
theorem ve_imp {m : ME} {v : N α} {w : N β} {e : EP α} {e' : EP β} (h : VE m G v e G1 X) (f : α → β) (z : ∀ a d, e a d → e' (f a) d) (hv : w = v.bind fun a => .ok (f a) := by first | with_reducible rfl | simp only [N.bind_ok, N.bind_assoc] | rfl) : VE m G w e' G1 X := fun τ s => by
  have k := h τ s
  rw [hv]
  cases v with
  | ok a => obtain ⟨d, τ', e1, e2, e3⟩ := k; exact ⟨d, τ', e1, z _ _ e2, e3⟩
  | ex c => exact k
  | bad => trivial
theorem vt_z {m : MZ} {v : N Bool} (h : VZ m G v eB) : VT (tZ m) G v G X := fun τ s => by
  cases v with
  | ok a =>
    obtain ⟨d, k1, k2⟩ := h.2 τ s a rfl
    cases (show d = .bl a from k2)
    exact ⟨a, τ, by unfold tZ; rw [k1], rfl, s⟩
  | ex c => exact absurd rfl (h.1 c)
  | bad => trivial
theorem vt_e {m : ME} {v : N Bool} (h : VE m G v eB G1 X) : VT (tE m) G v G1 X := fun τ s => by
  have : v = v.bind N.ok := by cases v <;> rfl
  rw [this]
  exact (h τ s).bind fun a d τ1 ⟨k1, s1⟩ => by
    cases (show d = .bl a from k1)
    exact ⟨a, τ1, rfl, rfl, s1⟩
theorem vt_ent {m : MT} {v : N Bool} (h : VT m G v G1 X) (k : Ent G1 G') : VT m G v G' X := fun τ s => by
  have q := h τ s
  cases v with
  | ok a => obtain ⟨d, τ', e1, e2, e3⟩ := q; exact ⟨d, τ', e1, e2, k _ e3⟩
  | ex c => exact q
  | bad => trivial
def N.and (v w : N Bool) : N Bool := v.bind fun a => if a = true then w else .ok false
def N.or (v w : N Bool) : N Bool := v.bind fun a => if a = true then .ok true else w
def N.not (v : N Bool) : N Bool := v.bind fun a => .ok !a
theorem vt_and {m n : MT} {v w : N Bool} (h : VT m G v G1 X) (k : VT n G1 w G2 X) (j : Ent G1 G2) : VT (tAnd m n) G (N.and v w) G2 X := fun τ s => (h τ s).bind fun a d τ1 ⟨k1, s1⟩ => by
  subst k1
  cases a with
  | true => rw [if_pos rfl, if_pos rfl]; exact k τ1 s1
  | false => rw [if_neg (by decide), if_neg (by decide)]; exact ⟨false, τ1, rfl, rfl, j _ s1⟩
theorem vt_or {m n : MT} {v w : N Bool} (h : VT m G v G1 X) (k : VT n G1 w G2 X) (j : Ent G1 G2) : VT (tOr m n) G (N.or v w) G2 X := fun τ s => (h τ s).bind fun a d τ1 ⟨k1, s1⟩ => by
  subst k1
  cases a with
  | true => rw [if_pos rfl, if_pos rfl]; exact ⟨true, τ1, rfl, rfl, j _ s1⟩
  | false => rw [if_neg (by decide), if_neg (by decide)]; exact k τ1 s1
theorem vt_not {m : MT} {v : N Bool} (h : VT m G v G1 X) : VT (tNot m) G (N.not v) G1 X := fun τ s => (h τ s).bind fun a d τ1 ⟨k1, s1⟩ => by
  subst k1
  exact ⟨!a, τ1, rfl, rfl, s1⟩
theorem vt_orP {m n : MT} {a b : Bool} (h : VT m G (.ok a) G1 X) (k : VT n G1 (.ok b) G2 X) (j : Ent G1 G2) : VT (tOr m n) G (.ok (a || b)) G2 X := by
  have := vt_or h k j
  unfold N.or N.bind at this
  cases a <;> exact this
theorem ve_and {m n : ME} {v w : N Bool} (h : VE m G v eB G1 X) (k : VE n G1 w eB G2 X) (j : Ent G1 G2) : VE (eAnd m n) G (N.and v w) eB G2 X := fun τ s => (h τ s).bind fun a d τ1 ⟨k1, s1⟩ => by
  cases (show d = .bl a from k1)
  cases a with
  | true => rw [if_pos rfl]; exact k τ1 s1
  | false => rw [if_neg (by decide)]; exact ⟨.bl false, τ1, rfl, rfl, j _ s1⟩
theorem ve_not {m : ME} {v : N Bool} (h : VE m G v eB G1 X) : VE (eNot m) G (N.not v) eB G1 X := fun τ s => (h τ s).bind fun a d τ1 ⟨k1, s1⟩ => by
  cases (show d = .bl a from k1)
  exact ⟨.bl !a, τ1, rfl, rfl, s1⟩
theorem ve_andP {m n : ME} {a b : Bool} (h : VE m G (.ok a) eB G1 X) (k : VE n G1 (.ok b) eB G2 X) (j : Ent G1 G2) : VE (eAnd m n) G (.ok (a && b)) eB G2 X := by
  have := ve_and h k j
  unfold N.and N.bind at this
  cases a <;> exact this
def SatC {γ : Type} (r : CR) (v : N γ) (e : EP γ) : Prop := match v with
  | .ok a => ∃ d, r = .ok d ∧ e a d
  | .ex c => r = .ex c
  | .bad => True
def VF (f : List D → CR) (n : α → N γ) (ea : EL α) (er : EP γ) : Prop := ∀ a ds, ea a ds → SatC (f ds) (n a) er
theorem sat_ofC {r : CR} {τ : Env} {v : N γ} {e : EP γ} (h : SatC r v e) (s : Is G τ) (x : ∀ τ, Is G τ → X τ) : Sat (ofC r τ) v (fun a d τ' => e a d ∧ Is G τ') X := by
  cases v with
  | ok a =>
    obtain ⟨d, e1, e2⟩ := h
    rw [e1]
    exact ⟨d, τ, rfl, e2, s⟩
  | ex c =>
    rw [show r = .ex c from h]
    exact ⟨τ, rfl, x _ s⟩
  | bad => trivial
theorem ve_call {m : MA} {f : List D → CR} {n : α → N γ} {ea ea' : EL α} {er : EP γ} {v1 : N α} {v : N γ} (h : VA m G v1 ea G1 X) (k : VF f n ea' er) (z : FzL ea ea') (x : ∀ τ, Is G1 τ → X τ) (hv : v = v1.bind fun a => n a := by first | with_reducible rfl | simp only [N.bind_ok, N.bind_assoc] | rfl) : VE (eCall f m) G v er G1 X := fun τ s => by
  rw [hv]
  exact (h τ s).bind fun a ds τ1 ⟨k1, s1⟩ => sat_ofC (k a _ (z _ _ k1)) s1 x
end
end Bn
namespace Bn
open PySem PySem.Spec PyProof.Rows L2
def VI {α : Type} (m : MA) (G : List Slot) (v : N (List α)) (e : EP α) (G' : List Slot) (X : Env → Prop) : Prop := ∀ τ, Is G τ → Sat (m τ) v (fun a d τ' => Al e a d ∧ Is G' τ') X
@[irreducible] def N.range (n : Int) : N (List Int) := if -(2 ^ 62) ≤ n ∧ n < 2 ^ 62 then .ok ((List.range n.toNat).map fun k : Nat => (k : Int)) else .bad
@[irreducible] def N.rangeN (i j : Int) : N (List Int) := if -(2 ^ 62) ≤ i ∧ i < 2 ^ 62 ∧ -(2 ^ 62) ≤ j ∧ j < 2 ^ 62 then .ok ((List.range (i - j).toNat).map fun k : Nat => i + (k : Int) * (-1)) else .bad
def signs (s : Str) : List Str := s.cps.toList.map fun c => ⟨#[c]⟩
theorem N.range_ok {n : Nat} (h : (n : Int) < 2 ^ 62) : N.range (n : Int) = .ok ((List.range n).map fun k : Nat => (k : Int)) := by
  unfold N.range
  rw [if_pos ⟨by omega, h⟩, Int.toNat_natCast]
section
variable {α β γ : Type} {G G1 G2 G' : List Slot} {X : Env → Prop}
theorem vi_l {m : ME} {v : N (List α)} {b : Bool} {e e' : EP α} (h : VE m G v (eLi b e) G1 X) (z : Fz (eLi b e) (eLi false e')) : VI (iL m) G v e' G1 X := fun τ s => by
  have : v = v.bind N.ok := by cases v <;> rfl
  rw [this]
  exact (h τ s).bind fun a d τ1 ⟨k1, s1⟩ => by
    obtain ⟨ds, k2, k3⟩ := z _ _ k1
    refine ⟨ds, τ1, ?_, k3, s1⟩
    show (match freeze d with | .lst _ es => R.ok es τ1 | _ => .bad) = _
    rw [k2]
theorem vi_s {m : ME} {v : N Str} {w : N (List Str)} (h : VE m G v eS G1 X) (hw : w = v.bind fun s => .ok (signs s) := by first | with_reducible rfl | simp only [N.bind_ok, N.bind_assoc] | rfl) : VI (iS m) G w eS G1 X := fun τ s => by
  rw [hw]
  exact (h τ s).bind fun a d τ1 ⟨k1, s1⟩ => by
    cases (show d = .str a from k1)
    refine ⟨strD a, τ1, rfl, ?_, s1⟩
    unfold strD signs
    induction a.cps.toList with
    | nil => exact .nil
    | cons c cs ih => exact .cons rfl ih
theorem vi_r1 {m : MA} {v : N Int} {w : N (List Int)} (h : VA m G v (eOne eI) G1 X) (hw : w = v.bind fun n => N.range n := by first | with_reducible rfl | simp only [N.bind_ok, N.bind_assoc] | rfl) : VI (iR1 m) G w eI G1 X := fun τ s => by
  rw [hw]
  exact (h τ s).bind fun n ds τ1 ⟨⟨d, e1, e2⟩, s1⟩ => by
    cases (show d = .int n from e2)
    subst e1
    unfold N.range
    by_cases c : -(2 ^ 62) ≤ n ∧ n < 2 ^ 62
    · rw [if_pos c]
      refine ⟨rangeD 0 n.toNat, τ1, ?_, ?_, s1⟩
      · show (if _ then _ else _) = _
        rw [if_pos c]
      · unfold rangeD
        have : (List.range n.toNat).map (fun k : Nat => D.int (0 + (k : Nat))) = ((List.range n.toNat).map fun k : Nat => (k : Int)).map D.int := by
          rw [List.map_map]
          exact List.map_congr_left fun k _ => by show D.int (0 + (k : Int)) = D.int (k : Int); congr 1; omega
        rw [this]
        exact al_ints _
    · rw [if_neg c]; trivial
theorem Al.rev {e : EP α} : ∀ {xs : List α} {ds : List D}, Al e xs ds → Al e xs.reverse ds.reverse
  | _, _, .nil => .nil
  | _, _, .cons a b => by rw [List.reverse_cons, List.reverse_cons]; exact b.rev.append (.cons a .nil)
def VG (g : D → Env → Option Env) (e : EP α) (p : α → List Slot → List Slot) : Prop := ∀ a d τ G, e a d → Is G τ → ∃ τ', g d τ = some τ' ∧ Is (p a G) τ'
theorem vg_n {i : Nat} {e : EP α} : VG (gN i) e fun a G => put G i (.val e a) := fun a d τ G h s => ⟨_, rfl, Is.put (q := Slot.val e a) (o := some d) (show Slot.h _ _ from ⟨d, rfl, h⟩) i s⟩
end
section
variable {α β γ σ σ' κ ρ : Type} {G G1 G2 : List Slot} {G' : σ → List Slot} {L : κ → List Slot} {er : ρ → D → Env → Prop} {X : Env → Prop}
def SatS (r : SR) (n : NS σ κ ρ) (G' : σ → List Slot) (L : κ → List Slot) (er : ρ → D → Env → Prop) (X : Env → Prop) : Prop := match n with
  | .nx s => ∃ τ', r = .nx τ' ∧ Is (G' s) τ'
  | .bk l => ∃ τ', r = .bk τ' ∧ Is (L l) τ'
  | .ct l => ∃ τ', r = .ct τ' ∧ Is (L l) τ'
  | .rt a => ∃ d τ', r = .rt d τ' ∧ er a d τ'
  | .ex c => ∃ τ', r = .ex c τ' ∧ X τ'
  | .bad => True
def VS (m : MS) (G : List Slot) (n : NS σ κ ρ) (G' : σ → List Slot) (L : κ → List Slot) (er : ρ → D → Env → Prop) (X : Env → Prop) : Prop := ∀ τ, Is G τ → SatS (m τ) n G' L er X
theorem Sat.s {β' : Type} {r : R β} {v : N α} {P : α → β → Env → Prop} {k : β → Env → SR} {w : α → NS σ κ ρ} (h : Sat r v P X) (q : ∀ a d τ, P a d τ → SatS (k d τ) (w a) G' L er X) : SatS (r.s k) (v.s w) G' L er X := by
  cases v with
  | ok a =>
    obtain ⟨d, τ', e, p⟩ := h
    rw [e]
    exact q a d τ' p
  | ex c =>
    obtain ⟨τ', e, p⟩ := h
    rw [e]
    exact ⟨τ', rfl, p⟩
  | bad => trivial
theorem Sat.sSeq {β' : Type} {r : R β} {v : N α} {P : α → β → Env → Prop} {k : β → Env → SR} {b : MS} {w : α → NS σ κ ρ} (h : Sat r v P X) (q : ∀ a d τ, P a d τ → SatS (Bn.sSeq (fun _ => k d τ) b τ) (w a) G' L er X) : SatS (Bn.sSeq (fun _ => r.s k) b []) (v.s w) G' L er X := by
  cases v with
  | ok a =>
    obtain ⟨d, τ', e, p⟩ := h
    rw [e]
    exact q a d τ' p
  | ex c =>
    obtain ⟨τ', e, p⟩ := h
    rw [e]
    exact ⟨τ', rfl, p⟩
  | bad => trivial
theorem SatS.seq {r : SR} {n : NS σ' κ ρ} {G1 : σ' → List Slot} {b : MS} {k : σ' → NS σ κ ρ} (h : SatS r n G1 L er X) (q : ∀ s τ, Is (G1 s) τ → SatS (b τ) (k s) G' L er X) : SatS (Bn.sSeq (fun _ => r) b []) (n.s k) G' L er X := by
  cases n with
  | nx s => obtain ⟨τ', e, p⟩ := h; rw [e]; exact q s τ' p
  | bk s => obtain ⟨τ', e, p⟩ := h; rw [e]; exact ⟨τ', rfl, p⟩
  | ct s => obtain ⟨τ', e, p⟩ := h; rw [e]; exact ⟨τ', rfl, p⟩
  | rt s => obtain ⟨d, τ', e, p⟩ := h; rw [e]; exact ⟨d, τ', rfl, p⟩
  | ex s => obtain ⟨τ', e, p⟩ := h; rw [e]; exact ⟨τ', rfl, p⟩
  | bad => trivial
theorem vs_one {m : MS} {n : NS σ κ ρ} (h : VS (sSeq m sNil) G n G' L er X) : VS m G n G' L er X := fun τ s => by
  have q := h τ s
  have : sSeq m sNil τ = m τ := by unfold sSeq sNil; cases m τ <;> rfl
  rw [this] at q; exact q
theorem vs_end {s : σ} (h : Ent G (G' s)) : VS sNil G (.nx s : NS σ κ ρ) G' L er X := fun τ q => ⟨τ, rfl, h τ q⟩
theorem vs_doc {r : MS} {n : NS σ κ ρ} (h : VS r G n G' L er X) : VS (sSeq sNil r) G n G' L er X := h
theorem vs_assoc {a b c : MS} {n : NS σ κ ρ} (h : VS (sSeq a (sSeq b c)) G n G' L er X) : VS (sSeq (sSeq a b) c) G n G' L er X := fun τ s => by
  have q := h τ s
  have : sSeq (sSeq a b) c τ = sSeq a (sSeq b c) τ := by unfold sSeq; cases a τ <;> rfl
  rw [this]; exact q
theorem vs_stop {a c : MS} {n : NS σ κ ρ} (h : VS a G n (fun _ => [.val (fun (_ : Unit) _ => False) ()]) L er X) : VS (sSeq a c) G n G' L er X := fun τ s => by
  have q := h τ s
  show SatS (sSeq a c τ) n G' L er X
  unfold sSeq
  cases n with
  | nx s => obtain ⟨τ', e, _, _, _, ⟨_, _, p⟩, _⟩ := q; exact p.elim
  | bk s => obtain ⟨τ', e, p⟩ := q; rw [e]; exact ⟨τ', rfl, p⟩
  | ct s => obtain ⟨τ', e, p⟩ := q; rw [e]; exact ⟨τ', rfl, p⟩
  | rt s => obtain ⟨d, τ', e, p⟩ := q; rw [e]; exact ⟨d, τ', rfl, p⟩
  | ex s => obtain ⟨τ', e, p⟩ := q; rw [e]; exact ⟨τ', rfl, p⟩
  | bad => trivial
theorem vs_asg {m : ME} {g : D → Env → Option Env} {r : MS} {v : N α} {e : EP α} {p : α → List Slot → List Slot} {k : α → NS σ κ ρ} (h : VE m G v e G1 X) (hg : VG g e p) (hr : ∀ a, VS r (p a G1) (k a) G' L er X) : VS (sSeq (sAsg m g) r) G (v.s k) G' L er X := fun τ s => by
  exact (h τ s).sSeq (β' := D) (k := fun d τ1 => match g d τ1 with | some τ2 => .nx τ2 | none => .bad) fun a d τ1 ⟨k1, s1⟩ => by
    obtain ⟨τ2, e1, e2⟩ := hg a d τ1 G1 k1 s1
    show SatS (Bn.sSeq (fun _ => match g d τ1 with | some τ2 => .nx τ2 | none => .bad) r τ1) (k a) G' L er X
    rw [e1]
    exact hr a τ2 e2
theorem vs_asgP {m : ME} {g : D → Env → Option Env} {r : MS} {a : α} {e : EP α} {p : α → List Slot → List Slot} {n : NS σ κ ρ} (h : VE m G (.ok a) e G1 X) (hg : VG g e p) (hr : VS r (p a G1) n G' L er X) : VS (sSeq (sAsg m g) r) G n G' L er X := fun τ s => by
  obtain ⟨d, τ1, e0, k1, s1⟩ := h τ s
  obtain ⟨τ2, e1, e2⟩ := hg a d τ1 G1 k1 s1
  have : sSeq (sAsg m g) r τ = r τ2 := by
    unfold sSeq sAsg
    rw [e0]
    show (match (match g d τ1 with | some τ2 => SR.nx τ2 | none => .bad) with | .nx τ' => r τ' | .rt d τ' => .rt d τ' | .bk τ' => .bk τ' | .ct τ' => .ct τ' | .ex c τ' => .ex c τ' | .bad => .bad) = _
    rw [e1]
  rw [this]
  exact hr τ2 e2
theorem vs_ret {m : ME} {v : N α} {e : EP α} (h : VE m G v e G1 X) (f : α → ρ) (z : ∀ a d τ, e a d → Is G1 τ → er (f a) d τ) : VS (sRet m) G (v.s fun a => .rt (f a)) G' L er X := fun τ s => by
  exact (h τ s).s (β' := D) fun a d τ1 ⟨k1, s1⟩ => ⟨d, τ1, rfl, z _ _ _ k1 s1⟩
theorem vs_drop {m : ME} {r : MS} {v : N α} {e : EP α} {n1 : NS σ κ ρ} (h : VE m G v e G1 X) (hr : VS r G1 n1 G' L er X) : VS (sSeq (sDrop m) r) G (v.s fun _ => n1) G' L er X := fun τ s => by
  exact (h τ s).sSeq (β' := D) (k := fun _ τ1 => .nx τ1) fun a d τ1 ⟨k1, s1⟩ => hr τ1 s1
theorem vs_raise {c : Str} (x : ∀ τ, Is G τ → X τ) : VS (sRaise c) G (.ex c : NS σ κ ρ) G' L er X := fun τ q => ⟨τ, rfl, x τ q⟩
theorem vs_if {c : MT} {a b r : MS} {v : N Bool} {n1 n2 : NS σ κ ρ} (h : VT c G v G1 X) (h1 : VS (sSeq a r) G1 n1 G' L er X) (h2 : VS (sSeq b r) G1 n2 G' L er X) : VS (sSeq (sIf c a b) r) G (v.s fun x => if x = true then n1 else n2) G' L er X := fun τ s => by
  exact (h τ s).sSeq (β' := D) (k := fun x τ1 => if x = true then a τ1 else b τ1) fun x d τ1 ⟨k1, s1⟩ => by
    subst k1
    cases x with
    | true =>
      rw [if_pos rfl]
      exact h1 τ1 s1
    | false =>
      rw [if_neg (by decide)]
      exact h2 τ1 s1
theorem vs_ifJ {c : MT} {a b r : MS} {v : N Bool} {n1 n2 : NS σ' κ ρ} {GJ : σ' → List Slot} {k : σ' → NS σ κ ρ} (h : VT c G v G1 X) (h1 : VS a G1 n1 GJ L er X) (h2 : VS b G1 n2 GJ L er X) (hr : ∀ s, VS r (GJ s) (k s) G' L er X) : VS (sSeq (sIf c a b) r) G ((v.s fun x => if x = true then n1 else n2).s k) G' L er X := fun τ s => by
  refine SatS.seq (r := sIf c a b τ) (G1 := GJ) ?_ fun s τ q => hr s τ q
  exact (h τ s).s (β' := D) fun x d τ1 ⟨k1, s1⟩ => by
    subst k1
    cases x with
    | true => rw [if_pos rfl]; exact h1 τ1 s1
    | false => rw [if_neg (by decide)]; exact h2 τ1 s1
theorem vs_ifP {c : MT} {a b r : MS} {x : Bool} {n1 n2 : NS σ κ ρ} (h : VT c G (.ok x) G1 X) (h1 : VS (sSeq a r) G1 n1 G' L er X) (h2 : VS (sSeq b r) G1 n2 G' L er X) : VS (sSeq (sIf c a b) r) G (if x = true then n1 else n2) G' L er X := vs_if h h1 h2
theorem vs_ifJP {c : MT} {a b r : MS} {x : Bool} {n1 n2 : NS σ' κ ρ} {GJ : σ' → List Slot} {k : σ' → NS σ κ ρ} (h : VT c G (.ok x) G1 X) (h1 : VS a G1 n1 GJ L er X) (h2 : VS b G1 n2 GJ L er X) (hr : ∀ s, VS r (GJ s) (k s) G' L er X) : VS (sSeq (sIf c a b) r) G ((if x = true then n1 else n2).s k) G' L er X := vs_ifJ h h1 h2 hr
theorem vs_retP {m : ME} {a : α} {e : EP α} (h : VE m G (.ok a) e G1 X) (f : α → ρ) (z : ∀ a d τ, e a d → Is G1 τ → er (f a) d τ) : VS (sRet m) G (.rt (f a) : NS σ κ ρ) G' L er X := vs_ret h f z
@[irreducible] def fuelN : Nat := 2 ^ 200
def forN (b : α → σ → NS σ σ ρ) : List α → σ → NS σ κ ρ
  | [], s => .nx s
  | x :: xs, s => match b x s with
    | .nx s' => forN b xs s'
    | .ct s' => forN b xs s'
    | .bk s' => .nx s'
    | .rt r => .rt r
    | .ex c => .ex c
    | .bad => .bad
theorem sat_forN {g : D → Env → Option Env} {body : MS} {e : EP α} {p : α → List Slot → List Slot} {GI : σ → List Slot} {nb : α → σ → NS σ σ ρ} (hg : VG g e p) (hb : ∀ x s, VS body (p x (GI s)) (nb x s) GI GI er X) : ∀ {xs : List α} {ds : List D} (s : σ) (τ : Env), Al e xs ds → Is (GI s) τ → SatS (forL g body ds τ) (forN nb xs s : NS σ κ ρ) GI L er X
  | _, _, s, τ, .nil, q => ⟨τ, rfl, q⟩
  | _, _, s, τ, .cons (x := x) (d := d) (xs := xs) (ds := ds) a t, q => by
    obtain ⟨τ1, e1, e2⟩ := hg x d τ _ a q
    have k := hb x s τ1 e2
    unfold forN forL
    rw [e1]
    show SatS (match body τ1 with | .nx τ2 => forL g body ds τ2 | .ct τ2 => forL g body ds τ2 | .bk τ2 => .nx τ2 | .rt d τ2 => .rt d τ2 | .ex c τ2 => .ex c τ2 | .bad => .bad) _ _ _ _ _
    cases e3 : nb x s with
    | nx s' => rw [e3] at k; obtain ⟨τ2, k1, k2⟩ := k; rw [k1]; exact sat_forN hg hb s' τ2 t k2
    | ct s' => rw [e3] at k; obtain ⟨τ2, k1, k2⟩ := k; rw [k1]; exact sat_forN hg hb s' τ2 t k2
    | bk s' => rw [e3] at k; obtain ⟨τ2, k1, k2⟩ := k; rw [k1]; exact ⟨τ2, rfl, k2⟩
    | rt r => rw [e3] at k; obtain ⟨d2, τ2, k1, k2⟩ := k; rw [k1]; exact ⟨d2, τ2, rfl, k2⟩
    | ex c => rw [e3] at k; obtain ⟨τ2, k1, k2⟩ := k; rw [k1]; exact ⟨τ2, rfl, k2⟩
    | bad => trivial
theorem vs_for {it : MA} {g : D → Env → Option Env} {body r : MS} {v : N (List α)} {e : EP α} {p : α → List Slot → List Slot} {GI : σ' → List Slot} {nb : α → σ' → NS σ' σ' ρ} {s0 : σ'} {k : σ' → NS σ κ ρ} (h : VI it G v e G1 X) (hg : VG g e p) (h0 : Ent G1 (GI s0)) (hb : ∀ x s, VS body (p x (GI s)) (nb x s) GI GI er X) (hr : ∀ s, VS r (GI s) (k s) G' L er X)
 : VS (sSeq (sFor it g body) r) G (v.s fun xs => (forN nb xs s0).s k) G' L er X := fun τ s => by
  exact (h τ s).sSeq (β' := D) (k := fun items τ1 => forL g body items τ1) fun xs ds τ1 ⟨k1, s1⟩ => SatS.seq (r := forL g body ds τ1) (G1 := GI) (sat_forN hg hb s0 τ1 k1 (h0 _ s1)) fun s τ q => hr s τ q
def whileN (c : σ → N Bool) (b : σ → NS σ σ ρ) : Nat → σ → NS σ κ ρ
  | 0, _ => .bad
  | n + 1, s => match c s with
    | .ok true => (match b s with
      | .nx s' => whileN c b n s'
      | .ct s' => whileN c b n s'
      | .bk s' => .nx s'
      | .rt r => .rt r
      | .ex e => .ex e
      | .bad => .bad)
    | .ok false => .nx s
    | .ex e => .ex e
    | .bad => .bad
theorem sat_whileN {c : MT} {body : MS} {GI GC : σ → List Slot} {nc : σ → N Bool} {nb : σ → NS σ σ ρ} (hc : ∀ s, VT c (GI s) (nc s) (GC s) X) (hb : ∀ s, VS body (GC s) (nb s) GI GI er X) (hi : ∀ s, Ent (GI s) (GC s)) : ∀ (n : Nat) (s : σ) (τ : Env), Is (GI s) τ → SatS (whileM c body n τ) (whileN nc nb n s : NS σ κ ρ) GC L er X
  | 0, s, τ, q => trivial
  | n + 1, s, τ, q => by
    have k := hc s τ q
    unfold whileN whileM
    cases e3 : nc s with
    | ok b =>
      rw [e3] at k
      obtain ⟨d, τ1, k1, k2, k3⟩ := k
      subst k2
      rw [k1]
      cases b with
      | false => exact ⟨τ1, rfl, k3⟩
      | true =>
        have k := hb s τ1 k3
        show SatS (match body τ1 with | .nx τ2 => whileM c body n τ2 | .ct τ2 => whileM c body n τ2 | .bk τ2 => .nx τ2 | .rt d τ2 => .rt d τ2 | .ex e τ2 => .ex e τ2 | .bad => .bad) (match nb s with | .nx s' => whileN nc nb n s' | .ct s' => whileN nc nb n s' | .bk s' => .nx s' | .rt r => .rt r | .ex e => .ex e | .bad => .bad) _ _ _ _
        cases e4 : nb s with
        | nx s' => rw [e4] at k; obtain ⟨τ2, k1, k2⟩ := k; rw [k1]; exact sat_whileN hc hb hi n s' τ2 k2
        | ct s' => rw [e4] at k; obtain ⟨τ2, k1, k2⟩ := k; rw [k1]; exact sat_whileN hc hb hi n s' τ2 k2
        | bk s' => rw [e4] at k; obtain ⟨τ2, k1, k2⟩ := k; rw [k1]; exact ⟨τ2, rfl, hi _ _ k2⟩
        | rt r => rw [e4] at k; obtain ⟨d2, τ2, k1, k2⟩ := k; rw [k1]; exact ⟨d2, τ2, rfl, k2⟩
        | ex c => rw [e4] at k; obtain ⟨τ2, k1, k2⟩ := k; rw [k1]; exact ⟨τ2, rfl, k2⟩
        | bad => trivial
    | ex c => rw [e3] at k; obtain ⟨τ2, k1, k2⟩ := k; rw [k1]; exact ⟨τ2, rfl, k2⟩
    | bad => trivial
theorem vs_while {F : Nat} {c : MT} {body r : MS} {GI GC : σ' → List Slot} {nc : σ' → N Bool} {nb : σ' → NS σ' σ' ρ} {s0 : σ'} {k : σ' → NS σ κ ρ} (h0 : Ent G (GI s0)) (hc : ∀ s, VT c (GI s) (nc s) (GC s) X) (hb : ∀ s, VS body (GC s) (nb s) GI GI er X) (hi : ∀ s, Ent (GI s) (GC s)) (hr : ∀ s, VS r (GC s) (k s) G' L er X)
 : VS (sSeq (sWhile (fun _ => F) c body) r) G ((whileN nc nb F s0).s k) G' L er X := fun τ s => by
  exact SatS.seq (r := whileM c body F τ) (G1 := GC) (sat_whileN hc hb hi F s0 τ (h0 _ s)) fun s τ q => hr s τ q
theorem Al.set {e : EP α} : ∀ {xs : List α} {ds : List D} (j : Nat) {a : α} {d : D}, Al e xs ds → e a d → Al e (xs.set j a) (ds.set j d)
  | _, _, _, _, _, .nil, _ => .nil
  | _, _, 0, _, _, .cons _ b, h => .cons h b
  | _, _, j + 1, _, _, .cons a b, h => .cons a (b.set j h)
end
section
variable {α β γ : Type} {G G1 G2 GI : List Slot} {X : Env → Prop}
def lcR (t : α → N Bool) (f : α → N β) : List α → N (List β)
  | [] => .ok []
  | x :: xs => match t x with
    | .ok true => (match f x with
      | .ok b => (match lcR t f xs with
        | .ok bs => .ok (b :: bs)
        | _ => .bad)
      | _ => .bad)
    | .ok false => lcR t f xs
    | _ => .bad
theorem lcR_noex (nt : α → N Bool) (nf : α → N β) : ∀ (xs : List α) (c : Str), lcR nt nf xs ≠ .ex c
  | [], c, er => by cases er
  | x :: xs, c, er => by
    unfold lcR at er
    cases e1 : nt x with
    | ok b =>
      simp only [e1] at er
      cases b with
      | true =>
        cases e2 : nf x with
        | ok b => simp only [e2] at er; cases e3 : lcR nt nf xs with
          | ok bs => simp only [e3] at er; cases er
          | ex c => simp only [e3] at er; cases er
          | bad => simp only [e3] at er; cases er
        | ex c => simp only [e2] at er; cases er
        | bad => simp only [e2] at er; cases er
      | false => exact lcR_noex nt nf xs c er
    | ex c => simp only [e1] at er; cases er
    | bad => simp only [e1] at er; cases er
@[irreducible] def lcN (t : α → N Bool) (f : α → N β) (xs : List α) : N (List β) := if xs.length ≤ 1000000 then lcR t f xs else .bad
def wipeG (G : List Slot) : List Nat → List Slot
  | [] => G
  | v :: vs => put (wipeG G vs) v .any
theorem Is.wipe {τ : Env} (s : Is G τ) : ∀ own : List Nat, Is (wipeG G own) (wipeE τ own)
  | [] => s
  | v :: vs => Is.put (q := Slot.any) (o := none) True.intro v (s.wipe vs)
theorem sat_lc {own : List Nat} {g : D → Env → Option Env} {t : MT} {m : ME} {e : EP α} {e' : EP β} {p : α → List Slot → List Slot} {nt : α → N Bool} {nf : α → N β} {G2 G3 : α → List Slot} (hg : VG g e p) (ht : ∀ x, VT t (p x GI) (nt x) (G2 x) fun _ => True) (hm : ∀ x, VE m (G2 x) (nf x) e' (G3 x) fun _ => True) (h2 : ∀ x, Ent (wipeG (G2 x) own) GI) (h3 : ∀ x, Ent (wipeG (G3 x) own) GI) :
    ∀ {xs : List α} {ds : List D} (acc : List D) (τ : Env), Al e xs ds → acc.length + xs.length ≤ 1000000 → Is GI τ → ∀ ys, lcR nt nf xs = .ok ys → ∃ es τ', lcL own g t m ds acc τ = .ok (acc ++ es) τ' ∧ Al e' ys es ∧ Is GI τ'
  | _, _, acc, τ, .nil, _, q, ys, h => by
    cases (show N.ok [] = N.ok ys from h)
    exact ⟨[], τ, by rw [List.append_nil]; rfl, .nil, q⟩
  | _, _, acc, τ, .cons (x := x) (d := d) (xs := xs) (ds := ds) a r, hl, q, ys, h => by
    obtain ⟨τ1, e1, s1⟩ := hg x d τ _ a q
    have kt := ht x τ1 s1
    unfold lcR at h
    unfold lcL
    rw [e1]
    show ∃ es τ', ((t τ1).bind fun b τ2 => if b = true then (m τ2).bind fun e τ3 => if acc.length < 1000000 then lcL own g t m ds (acc ++ [e]) (wipeE τ3 own) else .bad else lcL own g t m ds acc (wipeE τ2 own)) = _ ∧ _
    rw [List.length_cons] at hl
    cases et : nt x with
    | ok b =>
      rw [et] at kt h
      obtain ⟨b', τ2, k1, k2, s2⟩ := kt
      subst k2
      rw [k1]
      cases b with
      | true =>
        have km := hm x τ2 s2
        show ∃ es τ', ((m τ2).bind fun e τ3 => if acc.length < 1000000 then lcL own g t m ds (acc ++ [e]) (wipeE τ3 own) else .bad) = _ ∧ _
        cases ef : nf x with
        | ok b =>
          simp only [ef] at km h
          obtain ⟨de, τ3, l1, l2, s3⟩ := km
          rw [l1]
          show ∃ es τ', (if acc.length < 1000000 then lcL own g t m ds (acc ++ [de]) (wipeE τ3 own) else .bad) = _ ∧ _
          rw [if_pos (by omega)]
          cases er : lcR nt nf xs with
          | ok bs =>
            simp only [er] at h
            cases h
            obtain ⟨es, τ', z1, z2, z3⟩ := sat_lc hg ht hm h2 h3 (acc ++ [de]) (wipeE τ3 own) r (by rw [List.length_append, List.length_cons, List.length_nil]; omega) (h3 x _ (s3.wipe own)) bs er
            exact ⟨de :: es, τ', by rw [z1, List.append_assoc]; rfl, .cons l2 z2, z3⟩
          | ex c => simp only [er] at h; cases h
          | bad => simp only [er] at h; cases h
        | ex c => simp only [ef] at h; cases h
        | bad => simp only [ef] at h; cases h
      | false =>
        exact sat_lc hg ht hm h2 h3 acc (wipeE τ2 own) r (by omega) (h2 x _ (s2.wipe own)) ys h
    | ex c => rw [et] at h; cases h
    | bad => rw [et] at h; cases h
theorem ve_lc {own : List Nat} {it : MA} {g : D → Env → Option Env} {t : MT} {m : ME} {v : N (List α)} {e : EP α} {e' : EP β} {p : α → List Slot → List Slot} {nt : α → N Bool} {nf : α → N β} {G2 G3 : α → List Slot} {w : N (List β)} (h : VI it G v e G1 X) (hg : VG g e p) (h1 : Ent (wipeG G1 own) GI) (ht : ∀ x, VT t (p x GI) (nt x) (G2 x) fun _ => True) (hm : ∀ x, VE m (G2 x) (nf x) e' (G3 x) fun _ => True) (h2 : ∀ x, Ent (wipeG (G2 x) own) GI) (h3 : ∀ x, Ent (wipeG (G3 x) own) GI)
    (hw : w = v.bind fun xs => lcN nt nf xs := by first | with_reducible rfl | simp only [N.bind_ok, N.bind_assoc] | rfl) : VE (eLc own it g t m) G w (eLi true e') GI X := fun τ s => by
  rw [hw]
  exact (h τ s).bind fun xs ds τ1 ⟨k1, s1⟩ => by
    unfold lcN
    by_cases c : xs.length ≤ 1000000
    · rw [if_pos c]
      cases er : lcR nt nf xs with
      | ok ys =>
        obtain ⟨es, τ', z1, z2, z3⟩ := sat_lc hg ht hm h2 h3 [] (wipeE τ1 own) k1 (by rw [List.length_nil]; omega) (h1 _ (s1.wipe own)) ys er
        rw [z1]
        exact ⟨.lst true es, τ', rfl, ⟨es, rfl, z2⟩, z3⟩
      | ex c =>
        exact absurd er (lcR_noex nt nf xs c)
      | bad => exact True.intro
    · rw [if_neg c]; exact True.intro
theorem vt_true : VT tTrue G (.ok true) G X := fun τ s => ⟨true, τ, rfl, rfl, s⟩
theorem lcN_pure {f : α → N β} {g : α → β} {xs : List α} (hl : xs.length ≤ 1000000) (h : ∀ x ∈ xs, f x = .ok (g x)) : lcN (fun _ => .ok true) f xs = .ok (xs.map g) := by
  unfold lcN
  rw [if_pos hl]
  clear hl
  induction xs with
  | nil => rfl
  | cons x xs ih =>
    unfold lcR
    rw [h x List.mem_cons_self, ih fun y hy => h y (List.mem_cons_of_mem _ hy)]
    rfl
theorem lcN_filter {t : α → N Bool} {q : α → Bool} {f : α → N β} {g : α → β} {xs : List α} (hl : xs.length ≤ 1000000) (ht : ∀ x ∈ xs, t x = .ok (q x)) (h : ∀ x ∈ xs, q x = true → f x = .ok (g x)) : lcN t f xs = .ok ((xs.filter q).map g) := by
  unfold lcN
  rw [if_pos hl]
  clear hl
  induction xs with
  | nil => rfl
  | cons x xs ih =>
    unfold lcR
    rw [ht x List.mem_cons_self, ih (fun y hy => ht y (List.mem_cons_of_mem _ hy)) fun y hy => h y (List.mem_cons_of_mem _ hy)]
    cases e : q x with
    | true => rw [List.filter_cons_of_pos e, h x List.mem_cons_self e]; rfl
    | false => rw [List.filter_cons_of_neg (by rw [e]; decide)]
end
section
variable {α β γ σ κ ρ : Type} {er : EP ρ}
theorem is_any : ∀ k : Nat, Is (List.replicate k Slot.any) (List.replicate k none)
  | 0 => rfl
  | k + 1 => ⟨none, _, rfl, True.intro, is_any k⟩
inductive Ini : List Slot → List D → Prop
  | nil : Ini [] []
  | cons {α : Type} {e : EP α} {x : α} {d : D} {G : List Slot} {ds : List D} : e x d → Ini G ds → Ini (.val e x :: G) (d :: ds)
theorem Ini.is : ∀ {G : List Slot} {ds : List D} (k : Nat), Ini G ds → Is (G ++ List.replicate k Slot.any) (ds.map some ++ List.replicate k none)
  | _, _, k, .nil => is_any k
  | _, _, k, .cons a b => ⟨_, _, rfl, ⟨_, rfl, a⟩, b.is k⟩
theorem Ini.len {G : List Slot} {ds : List D} (h : Ini G ds) : ds.length = G.length := by
  induction h with
  | nil => rfl
  | cons _ _ ih => exact congrArg (· + 1) ih
abbrev XT : Env → Prop := fun _ => True
theorem satC_of {f : List D → CR} {n N : Nat} {b : MS} {G : List Slot} {ds : List D} {v : NS σ κ ρ} {G' : σ → List Slot} {L : κ → List Slot} (hf : f = callF n N b) (hi : Ini G ds) (hn : G.length = n) (h : VS b (G ++ List.replicate (N - n) Slot.any) v G' L (fun a d _ => er a d) XT) : SatC (f ds) v.f er := by
  have k := h _ (hi.is (N - n))
  rw [hf]
  unfold callF
  rw [if_pos (by rw [hi.len]; exact hn)]
  cases v with
  | rt a => obtain ⟨d, τ', e, p⟩ := k; exact ⟨d, by rw [e], p⟩
  | ex c => obtain ⟨τ', e, p⟩ := k; show _ = _; rw [e]
  | _ => exact True.intro
theorem satC_ofz {f : List D → CR} {n N : Nat} {b : MS} {G : List Slot} {ds : List D} {v : NS σ κ ρ} {z : ρ} {G' : σ → List Slot} {L : κ → List Slot} (hz : er z .non) (hf : f = callF n N b) (hi : Ini G ds) (hn : G.length = n) (h : VS b (G ++ List.replicate (N - n) Slot.any) v G' L (fun a d _ => er a d) XT) : SatC (f ds) (v.fz z) er := by
  have k := h _ (hi.is (N - n))
  rw [hf]
  unfold callF
  rw [if_pos (by rw [hi.len]; exact hn)]
  cases v with
  | rt a => obtain ⟨d, τ', e, p⟩ := k; exact ⟨d, by rw [e], p⟩
  | nx a => obtain ⟨τ', e, p⟩ := k; exact ⟨.non, by rw [e], hz⟩
  | ex c => obtain ⟨τ', e, p⟩ := k; show _ = _; rw [e]
  | _ => exact True.intro
theorem xt {G : List Slot} : ∀ τ, Is G τ → XT τ := fun _ _ => True.intro
def IniL (ea : EL α) (G : α → List Slot) : Prop := ∀ p ds, ea p ds → Ini (G p) ds
theorem inil_one {e : EP α} : IniL (eOne e) fun p => [.val e p] := fun p ds ⟨d, q, h⟩ => by rw [q]; exact .cons h .nil
theorem inil_cons {e : EP α} {es : EL β} {G : β → List Slot} (h : IniL es G) : IniL (eCons e es) fun p => .val e p.1 :: G p.2 := fun p ds ⟨d, r, q, k1, k2⟩ => by rw [q]; exact .cons k1 (h _ _ k2)
theorem Ini.app {G G' : List Slot} {ds es : List D} (h : Ini G ds) (k : Ini G' es) : Ini (G ++ G') (ds ++ es) := by
  induction h with
  | nil => exact k
  | cons a _ ih => exact .cons a ih
end
end Bn
namespace Bn
open PySem PySem.Spec PyProof.Rows L2
def CMulA (i j : Int) : Prop := CMulW i j ∨ CMul i j
instance {i j : Int} : Decidable (CMul i j) := by unfold CMul; infer_instance
instance {i j : Int} : Decidable (CMulA i j) := by unfold CMulA; infer_instance
theorem op_mulA {X : Cx} : OpR X (binaryOp .Mult) (rI CMulA fun i j => .int (i * j)) := opI fun _ _ _ _ _ _ _ hc q => mul_int q (hc.elim (·.ok) (·.ok))
def gMulA : D → D → Option D := gIC CMulA fun i j => .int (i * j)
theorem sMulA {K : PySem.W.Frag} : OpS K (rI CMulA fun i j => .int (i * j)) gMulA := opS_IC fun _ _ _ _ => rfl
@[irreducible] def N.mul (i j : Int) : N Int := if CMulA i j then .ok (i * j) else .bad
@[irreducible] def N.div (i j : Int) : N Int := if CDivW i j then .ok (i / j) else .bad
@[irreducible] def N.mod (i j : Int) : N Int := if 0 < j then .ok (i % j) else .bad
@[irreducible] def N.pow (i j : Int) : N Int := if CPow i j then .ok (i ^ j.toNat) else .bad
@[irreducible] def N.ix {α : Type} (xs : List α) (i : Int) : N α := N.o (atI xs i)
@[irreducible] def N.gix (d : D) (i : Int) : N D := match gIx d (.int i) with
  | some x => if isFz x = true then .ok x else .bad
  | none => .bad
@[irreducible] def N.six (z : Str) (i : Int) : N Str := if z.length ≤ 1000000 then N.o ((atI z.cps.toList i).map fun c => ⟨#[c]⟩) else .bad
@[irreducible] def N.sadd (i j : Str) : N Str := if i.length + j.length ≤ 1000000 then .ok (i ++ j) else .bad
@[irreducible] def N.slen (z : Str) : N Int := if z.length ≤ 1000000 then .ok (z.length : Nat) else .bad
@[irreducible] def N.gb (o : Option D) : N Bool := match o with
  | some (.bl b) => .ok b
  | _ => .bad
@[irreducible] def N.gi (o : Option D) : N Int := match o with
  | some (.int b) => .ok b
  | _ => .bad
@[irreducible] def N.str (i : Int) : N Str := if i.natAbs.log2 < 1920 then .ok (toString i) else .bad
@[irreducible] def N.cutS (z : Str) (lo hi : Option Int) : N Str := if z.length ≤ 1000000 then .ok (L2.cutS z lo hi) else .bad
@[irreducible] def N.sin (c z : Str) : N Bool := match c.cps.toList with
  | [k] => .ok (decide (k ∈ z.cps.toList))
  | _ => .bad
@[irreducible] def N.join (z : Str) (ys : List Str) : N Str := if (ys.map (·.length)).sum + ys.length * z.length ≤ 1000000 then .ok (Txt.join z ys) else .bad
@[irreducible] def N.cat {α : Type} (xs ys : List α) : N (List α) := if xs.length + ys.length ≤ 1000000 then .ok (xs ++ ys) else .bad
theorem N.mul_ok {i j : Int} (h : CMulA i j) : N.mul i j = .ok (i * j) := by unfold N.mul; exact if_pos h
theorem N.mul_l {i j : Int} (h : i.natAbs < 2 ^ 64) : N.mul i j = .ok (i * j) := N.mul_ok (.inr (.inl ⟨by omega, by omega⟩))
theorem N.div_ok {i j : Int} (h0 : 0 < j) {b : Nat} (hb : j.natAbs < 2 ^ b) (h1 : 0 < b := by decide) (h9 : b ≤ 9000 := by decide) : N.div i j = .ok (i / j) := by unfold N.div; exact if_pos (L2.wide_div h0 hb h1 h9)
theorem N.mod_ok {i j : Int} (h : 0 < j) : N.mod i j = .ok (i % j) := by unfold N.mod; exact if_pos h
theorem N.ix_ok {α : Type} {xs : List α} {k : Nat} {x : α} (h : xs[k]? = some x) : N.ix xs (k : Int) = .ok x := by
  unfold N.ix
  rw [show atI xs (k : Int) = xs[k]? from atI_of rfl, h]; rfl
theorem N.ix_i {α : Type} {xs : List α} {i : Int} {x : α} (h0 : 0 ≤ i) (h : xs[i.toNat]? = some x) : N.ix xs i = .ok x := by
  have := N.ix_ok h
  rwa [show ((i.toNat : Nat) : Int) = i by omega] at this
section
variable {α β γ : Type} {e : EP α}
theorem o_add : Op gAdd (fun a b => .ok (a + b)) eI eI eI := fun a b d1 d2 c h1 h2 q => by cases h1; cases h2; cases q; exact ⟨_, rfl, rfl⟩
theorem o_sub : Op gSub (fun a b => .ok (a - b)) eI eI eI := fun a b d1 d2 c h1 h2 q => by cases h1; cases h2; cases q; exact ⟨_, rfl, rfl⟩
theorem o_ic {C : Int → Int → Prop} [∀ i j, Decidable (C i j)] {k : Int → Int → Int} : Op (gIC C fun i j => .int (k i j)) (fun a b => if C a b then .ok (k a b) else .bad) eI eI eI := fun a b d1 d2 c h1 h2 q => by
  cases h1; cases h2
  by_cases z : C a b
  · simp only [z, if_true] at q
    cases q
    exact ⟨_, if_pos z, rfl⟩
  · simp only [z, if_false] at q; cases q
theorem o_mul : Op gMulA N.mul eI eI eI := by unfold N.mul; exact o_ic
theorem o_div : Op gDiv N.div eI eI eI := by unfold N.div; exact o_ic
theorem o_mod : Op gMod N.mod eI eI eI := by unfold N.mod; exact o_ic
theorem o_lt : Op gLt (fun a b => .ok (decide (a < b))) eI eI eB := fun a b d1 d2 c h1 h2 q => by cases h1; cases h2; cases q; exact ⟨_, rfl, rfl⟩
theorem o_gt : Op gGt (fun a b => .ok (decide (b < a))) eI eI eB := fun a b d1 d2 c h1 h2 q => by cases h1; cases h2; cases q; exact ⟨_, rfl, rfl⟩
theorem o_neg : Un gNeg (fun a => .ok (-a)) eI eI := fun a d c h q => by cases h; cases q; exact ⟨_, rfl, rfl⟩
theorem o_sadd : Op gAddS N.sadd eS eS eS := fun a b d1 d2 c h1 h2 q => by
  cases h1; cases h2
  unfold N.sadd at q
  by_cases z : a.length + b.length ≤ 1000000
  · rw [if_pos z] at q; cases q; exact ⟨_, if_pos z, rfl⟩
  · rw [if_neg z] at q; cases q
def eK (k : Int) : EP Unit := fun _ d => d = .int k
theorem vz_k {k : Int} {G : List Slot} : VZ (zC (.int k)) G (.ok ()) (eK k) := vz_c rfl
theorem vz_cst {m : MZ} {c : Int} {G : List Slot} (h : ∀ τ, m τ = some (.int c)) : VZ m G (.ok c) eI := ⟨noex_ok, fun τ _ a q => by cases q; exact ⟨_, h τ, rfl⟩⟩
theorem o_eqI : Op gEq (fun a b => .ok (decide (a = b))) eI eI eB := fun a b d1 d2 c h1 h2 q => by
  cases h1; cases h2; cases q
  refine ⟨_, vEq a b, ?_⟩
  show D.bl (a == b) = D.bl (decide (a = b))
  rfl
theorem o_neI : Op gNe (fun a b => .ok (!decide (a = b))) eI eI eB := fun a b d1 d2 c h1 h2 q => by
  cases h1; cases h2; cases q
  exact ⟨_, vNe a b, rfl⟩
def Fn (e : EP α) (f : α → D) : Prop := ∀ x d, e x d → toP d = toP (f x) ∧ hasP d = hasP (f x)
theorem fn_I : Fn eI D.int := fun x d h => by cases h; exact ⟨rfl, rfl⟩
theorem fn_S : Fn eS D.str := fun x d h => by cases h; exact ⟨rfl, rfl⟩
theorem fn_D : Fn eD fun x => x := fun x d h => by rw [h.1]; exact ⟨rfl, rfl⟩
theorem fn_al {e : EP α} {f : α → D} (h : Fn e f) : ∀ {xs : List α} {ds : List D}, Al e xs ds → toPs ds = toPs (xs.map f) ∧ hasPs ds = hasPs (xs.map f)
  | _, _, .nil => ⟨rfl, rfl⟩
  | _, _, .cons a b => by
    obtain ⟨h1, h2⟩ := h _ _ a
    obtain ⟨h3, h4⟩ := fn_al h b
    constructor
    · show toP _ :: toPs _ = toP _ :: toPs _; rw [h1, h3]
    · show (hasP _ && hasPs _) = (hasP _ && hasPs _); rw [h2, h4]
theorem fn_L {m : Bool} {e : EP α} {f : α → D} (h : Fn e f) : Fn (eLi m e) fun xs => D.lst false (xs.map f) := fun x d ⟨ds, q, k⟩ => by
  obtain ⟨h3, h4⟩ := fn_al h k
  rw [q]
  exact ⟨congrArg PyData.list h3, h4⟩
def FnL (e : EL α) (f : α → List D) : Prop := ∀ x ds, e x ds → toPs ds = toPs (f x) ∧ hasPs ds = hasPs (f x)
theorem fnl_one {f : α → D} (h : Fn e f) : FnL (eOne e) fun x => [f x] := fun x ds ⟨d, q, k⟩ => by
  obtain ⟨h1, h2⟩ := h _ _ k
  rw [q]
  constructor
  · show toP _ :: [] = toP _ :: []; rw [h1]
  · show (hasP _ && true) = (hasP _ && true); rw [h2]
theorem fnl_cons {es : EL β} {f : α → D} {g : β → List D} (h : Fn e f) (h' : FnL es g) : FnL (eCons e es) fun x => f x.1 :: g x.2 := fun x ds ⟨d, r, q, k, k'⟩ => by
  obtain ⟨h1, h2⟩ := h _ _ k
  obtain ⟨h3, h4⟩ := h' _ _ k'
  rw [q]
  constructor
  · show toP _ :: toPs _ = toP _ :: toPs _; rw [h1, h3]
  · show (hasP _ && hasPs _) = (hasP _ && hasPs _); rw [h2, h4]
theorem fn_T {es : EL α} {g : α → List D} (h : FnL es g) : Fn (eTu es) fun x => D.tup (g x) := fun x d ⟨ds, q, k⟩ => by
  obtain ⟨h3, h4⟩ := h _ _ k
  rw [q]
  exact ⟨congrArg PyData.tuple h3, h4⟩
theorem gEq_of {d1 d2 a b : D} (h1 : toP d1 = toP a ∧ hasP d1 = hasP a) (h2 : toP d2 = toP b ∧ hasP d2 = hasP b) : gEq d1 d2 = gEq a b ∧ gNe d1 d2 = gNe a b := by
  unfold gEq gNe okP eqP
  rw [h1.1, h1.2, h2.1, h2.2]
  exact ⟨rfl, rfl⟩
theorem N.gb_ok {o : Option D} {b : Bool} (h : N.gb o = .ok b) : o = some (.bl b) := by
  unfold N.gb at h
  split at h
  · cases h; rfl
  · cases h
theorem N.gi_ok {o : Option D} {b : Int} (h : N.gi o = .ok b) : o = some (.int b) := by
  unfold N.gi at h
  split at h
  · cases h; rfl
  · cases h
theorem o_eq {e' : EP β} {f : α → D} {g : β → D} (h : Fn e f) (h' : Fn e' g) : Op gEq (fun a b => N.gb (gEq (f a) (g b))) e e' eB := fun a b d1 d2 c k1 k2 q => by
  refine ⟨.bl c, ?_, rfl⟩
  rw [(gEq_of (h _ _ k1) (h' _ _ k2)).1]
  exact N.gb_ok q
theorem o_ne {e' : EP β} {f : α → D} {g : β → D} (h : Fn e f) (h' : Fn e' g) : Op gNe (fun a b => N.gb (gNe (f a) (g b))) e e' eB := fun a b d1 d2 c k1 k2 q => by
  refine ⟨.bl c, ?_, rfl⟩
  rw [(gEq_of (h _ _ k1) (h' _ _ k2)).2]
  exact N.gb_ok q
theorem atI_al {xs : List α} {ds : List D} (h : Al e xs ds) {i : Int} {x : α} (q : atI xs i = some x) : ∃ d, atI ds i = some d ∧ e x d := by
  unfold atI at q ⊢
  obtain ⟨j, e1, q⟩ := bind_some q
  rw [h.length, e1]
  exact h.get j q
theorem N.o_ok {o : Option α} {x : α} (h : N.o o = .ok x) : o = some x := by
  cases o with
  | none => cases h
  | some y => cases h; rfl
theorem o_ix {m : Bool} : Op gIx N.ix (eLi m e) eI e := fun xs i d1 d2 c ⟨ds, h1, h2⟩ h3 q => by
  cases h3; subst h1
  exact atI_al h2 (N.o_ok (by unfold N.ix at q; exact q))
theorem o_ixC : Op gIx N.ix eCn eI eI := fun xs i d1 d2 c h1 h3 q => by
  cases h3; cases h1
  exact atI_al (al_ints xs) (N.o_ok (by unfold N.ix at q; exact q))
theorem o_gix : Op gIx N.gix eD eI eD := fun xs i d1 d2 c h1 h3 q => by
  cases h3; rw [h1.1]
  unfold N.gix at q
  cases e1 : gIx xs (.int i) with
  | none => rw [e1] at q; cases q
  | some x =>
    rw [e1] at q
    by_cases z : isFz x = true
    · simp only [z, if_true] at q; cases q; exact ⟨_, rfl, rfl, z⟩
    · simp only [z] at q; cases q
theorem o_six : Op gIx N.six eS eI eS := fun z i d1 d2 c h1 h3 q => by
  cases h3; cases h1
  unfold N.six at q
  by_cases w : z.length ≤ 1000000
  · rw [if_pos w] at q
    have q := N.o_ok q
    obtain ⟨k, q1, q2⟩ := Option.map_eq_some_iff.mp q
    refine ⟨.str c, ?_, rfl⟩
    show (if z.length ≤ 1000000 then (atI z.cps.toList i).map fun c => D.str ⟨#[c]⟩ else none) = _
    rw [if_pos w, q1, ← q2]; rfl
  · rw [if_neg w] at q; cases q
def Pt (es : EL α) (k : Nat) (e : EP β) (p : α → β) : Prop := ∀ x ds, es x ds → ∃ d, ds[k]? = some d ∧ e (p x) d
theorem pt_1 : Pt (eOne e) 0 e fun x => x := fun x ds ⟨d, q, k⟩ => by rw [q]; exact ⟨d, rfl, k⟩
theorem pt_0 {es : EL β} : Pt (eCons e es) 0 e fun x => x.1 := fun x ds ⟨d, r, q, k, _⟩ => by rw [q]; exact ⟨d, rfl, k⟩
theorem pt_s {es : EL β} {n : Nat} {e' : EP γ} {p : β → γ} (h : Pt es n e' p) : Pt (eCons e es) (n + 1) e' fun x => p x.2 := fun x ds ⟨d, r, q, _, k⟩ => by
  obtain ⟨d', h1, h2⟩ := h _ _ k
  rw [q]; exact ⟨d', h1, h2⟩
theorem o_ixT {es : EL α} {k : Nat} {e' : EP β} {p : α → β} (h : Pt es k e' p) : Op gIx (fun a _ => .ok (p a)) (eTu es) (eK k) e' := fun x _ d1 d2 c ⟨ds, h1, h2⟩ h3 q => by
  cases h3; subst h1; cases q
  obtain ⟨d, k1, k2⟩ := h _ _ h2
  refine ⟨d, ?_, k2⟩
  show atI ds (k : Int) = _
  rw [show atI ds (k : Int) = ds[k]? from atI_of rfl]; exact k1
theorem c_len {m : Bool} : Cl gLen (fun xs => .ok (xs.length : Int)) (eOne (eLi m e)) eI := fun x ds c ⟨d, q, es, q2, k⟩ h => by
  subst q; subst q2; cases h
  refine ⟨_, vLenL m es, ?_⟩
  rw [k.length]; rfl
theorem c_lenC : Cl gLen (fun xs => .ok (xs.length : Int)) (eOne eCn) eI := fun x ds c ⟨d, q, q2⟩ h => by
  subst q; cases (show d = _ from q2); cases h
  refine ⟨_, vLenC _, ?_⟩
  rw [List.length_map]; rfl
theorem c_lenD : Cl gLen (fun d => N.gi (gLen [d])) (eOne eD) eI := fun x ds c ⟨d, q, q2⟩ h => by
  subst q; rw [q2.1]
  exact ⟨_, N.gi_ok h, rfl⟩
theorem c_lenS : Cl gLen N.slen (eOne eS) eI := fun x ds c ⟨d, q, q2⟩ h => by
  subst q; cases (show d = _ from q2)
  unfold N.slen at h
  by_cases w : x.length ≤ 1000000
  · rw [if_pos w] at h; cases h
    exact ⟨.int (x.length : Nat), if_pos w, rfl⟩
  · rw [if_neg w] at h; cases h
theorem c_abs : Cl gAbs (fun i => .ok (if i < 0 then -i else i)) (eOne eI) eI := fun x ds c ⟨d, q, q2⟩ h => by
  subst q; cases (show d = _ from q2); cases h; exact ⟨_, rfl, rfl⟩
theorem c_max2 : Cl gMax2 (fun p => .ok (mxI p.1 p.2)) (eCons eI (eOne eI)) eI := fun x ds c ⟨d, r, q, q2, d', q3, q4⟩ h => by
  subst q3; subst q; cases (show d = _ from q2); cases (show d' = _ from q4); cases h; exact ⟨_, vMax2, rfl⟩
def eTy (t : String) : EP Unit := fun _ d => d = .ty t
theorem vz_ty {t : String} {G : List Slot} : VZ (zC (.ty t)) G (.ok ()) (eTy t) := vz_c rfl
theorem c_isiD {u : String} : Cl gIsi (fun p => N.gb (gIsi [p.1, .ty u])) (eCons eD (eOne (eTy u))) eB := fun x ds c ⟨d, r, q, q2, d', q3, q4⟩ z => by
  subst q3; subst q; cases (show d' = _ from q4); rw [q2.1]
  exact ⟨_, N.gb_ok z, rfl⟩
theorem o_snotin : Op (gInS true) (fun x y => N.not (N.sin x y)) eS eS eB := fun x y d1 d2 c h1 h2 q => by
  cases h1; cases h2
  replace q : N.not (N.sin x y) = .ok c := q
  unfold N.sin N.not at q
  refine ⟨.bl c, ?_, rfl⟩
  unfold gInS
  show (match x.cps.toList with | [k] => some (D.bl (if true = true then !decide (k ∈ y.cps.toList) else decide (k ∈ y.cps.toList))) | _ => none) = _
  generalize x.cps.toList = l at *
  match l, q with
  | [k], q => cases q; rfl
  | [], q => cases q
  | _ :: _ :: _, q => cases q
def Fx (e : EP α) (f : α → D) : Prop := ∀ x d, e x d → d = f x
theorem fx_I : Fx eI D.int := fun x d h => h
theorem fx_S : Fx eS D.str := fun x d h => h
theorem fx_D : Fx eD fun x => x := fun x d h => h.1
def FxL (e : EL α) (f : α → List D) : Prop := ∀ x ds, e x ds → ds = f x
theorem fxl_one {f : α → D} (h : Fx e f) : FxL (eOne e) fun x => [f x] := fun x ds ⟨d, q, k⟩ => by rw [q, h _ _ k]
theorem fxl_cons {es : EL β} {f : α → D} {g : β → List D} (h : Fx e f) (h' : FxL es g) : FxL (eCons e es) fun x => f x.1 :: g x.2 := fun x ds ⟨d, r, q, k, k'⟩ => by rw [q, h _ _ k, h' _ _ k']
theorem fx_T {es : EL α} {g : α → List D} (h : FxL es g) : Fx (eTu es) fun x => D.tup (g x) := fun x d ⟨ds, q, k⟩ => by rw [q, h _ _ k]
theorem o_in {e' : EP β} {f : α → D} {g : β → D} {neg : Bool} (h : Fx e f) (h' : Fx e' g) : Op (gIn neg) (fun a b => N.gb (gIn neg (f a) (g b))) e e' eB := fun a b d1 d2 c k1 k2 q => by
  rw [h _ _ k1, h' _ _ k2]
  exact ⟨_, N.gb_ok q, rfl⟩
theorem to_D {f : α → D} (h : Fx e f) (z : Zf e) : ∀ a d, e a d → eD (f a) d := fun a d q => ⟨h _ _ q, by rw [← h _ _ q]; exact z _ _ q⟩
theorem c_str : Cl gStrI N.str (eOne eI) eS := fun x ds c ⟨d, q, q2⟩ h => by
  subst q; cases (show d = _ from q2)
  unfold N.str at h
  by_cases w : x.natAbs.log2 < 1920
  · rw [if_pos w] at h; cases h
    exact ⟨.str (toString x), if_pos w, rfl⟩
  · rw [if_neg w] at h; cases h
theorem c_intB : Cl gInt (fun x => .ok (if x = true then 1 else 0)) (eOne eB) eI := fun x ds c ⟨d, q, q2⟩ h => by
  subst q; cases (show d = _ from q2); cases h; exact ⟨_, rfl, rfl⟩
section
variable {G G1 G2 G3 G4 : List Slot} {X : Env → Prop}
theorem vp_none : VP pNone G (.ok none) G X := fun τ s => ⟨none, τ, rfl, rfl, s⟩
theorem vp_some {m : ME} {v : N Int} {w : N (Option Int)} (h : VE m G v eI G1 X) (hw : w = v.bind fun i => .ok (some i) := by first | with_reducible rfl | simp only [N.bind_ok, N.bind_assoc] | rfl) : VP (pSome m) G w G1 X := fun τ s => by
  rw [hw]
  exact (h τ s).bind fun i d τ1 ⟨k1, s1⟩ => by cases (show d = .int i from k1); exact ⟨some i, τ1, rfl, rfl, s1⟩
theorem Al.cut {xs : List α} {ds : List D} (h : Al e xs ds) (lo hi : Option Int) : Al e (cutL xs lo hi) (cutL ds lo hi) := by
  unfold cutL
  rw [h.length]
  exact (h.drop _).take _
theorem ve_slice {f : D → Option Int → Option Int → Option D} {F : α → Option Int → Option Int → N β} {m : ME} {p r : Env → R (Option Int)} {v : N α} {lo hi : N (Option Int)} {w : N β} {e e1 : EP α} {e' : EP β} (h : VE m G v e G1 X) (z : Fz e e1) (hp : VP p G1 lo G2 X) (hr : VP r G2 hi G3 X) (hf : ∀ a d l u b, e1 a d → F a l u = .ok b → ∃ d', f d l u = some d' ∧ e' b d') (nx : ∀ a l u c, F a l u ≠ .ex c)
    (hw : w = v.bind fun a => lo.bind fun l => hi.bind fun u => F a l u := by first | with_reducible rfl | simp only [N.bind_ok, N.bind_assoc] | rfl) : VE (eSlice f m p r) G w e' G3 X := fun τ s => by
  rw [hw]
  exact (h τ s).bind fun a d τ1 ⟨k1, s1⟩ => (hp τ1 s1).bind fun l l' τ2 ⟨k2, s2⟩ => (hr τ2 s2).bind fun u u' τ3 ⟨k3, s3⟩ => by
    subst k2; subst k3
    cases ef : F a l u with
    | ok b =>
      obtain ⟨d', q1, q2⟩ := hf a (freeze d) l u b (z _ _ k1) ef
      rw [q1]
      exact ⟨d', τ3, rfl, q2, s3⟩
    | ex c => exact absurd ef (nx a l u c)
    | bad => exact True.intro
theorem sl_L : ∀ (a : List α) d l u b, eLi false e a d → N.ok (cutL a l u) = N.ok b → ∃ d', cutLd d l u = some d' ∧ eLi true e b d' := fun a d l u b ⟨ds, h1, h2⟩ q => by
  subst h1; cases q
  exact ⟨_, rfl, _, rfl, h2.cut l u⟩
theorem sl_C : ∀ (a : List Int) d l u b, eCn a d → N.ok (cutL a l u) = N.ok b → ∃ d', cutLd d l u = some d' ∧ eLi true eI b d' := fun a d l u b h1 q => by
  cases h1; cases q
  exact ⟨_, rfl, _, rfl, (al_ints a).cut l u⟩
theorem sl_S : ∀ (a : Str) d l u b, eS a d → N.cutS a l u = N.ok b → ∃ d', cutSd d l u = some d' ∧ eS b d' := fun a d l u b h1 q => by
  cases h1
  unfold N.cutS at q
  by_cases w : a.length ≤ 1000000
  · rw [if_pos w] at q; cases q
    exact ⟨.str (L2.cutS a l u), if_pos w, rfl⟩
  · rw [if_neg w] at q; cases q
theorem nx_cutS : ∀ (a : Str) l u c, N.cutS a l u ≠ .ex c := fun a l u c h => by
  unfold N.cutS at h; split at h <;> cases h
theorem ve_join {a b : ME} {v : N Str} {w : N (List Str)} {u : N Str} {m : Bool} (h : VE a G v eS G1 X) (k : VE b G1 w (eLi m eS) G2 X) (hu : u = v.bind fun z => w.bind fun ys => N.join z ys := by first | with_reducible rfl | simp only [N.bind_ok, N.bind_assoc] | rfl) : VE (eJoin a b) G u eS G2 X := fun τ s => by
  rw [hu]
  exact (h τ s).bind fun z d τ1 ⟨k1, s1⟩ => by
    cases (show d = .str z from k1)
    exact (k τ1 s1).bind fun ys d τ2 ⟨⟨ds, k2, k3⟩, s2⟩ => by
      subst k2
      rw [k3.strs]
      show Sat (match strsOf (ys.map D.str) with | some ys => if (ys.map (·.length)).sum + ys.length * z.length ≤ 1000000 then R.ok (D.str (Txt.join z ys)) τ2 else .bad | none => .bad) (N.join z ys) _ _
      rw [strs_map]
      unfold N.join
      by_cases c : (ys.map (·.length)).sum + ys.length * z.length ≤ 1000000
      · rw [if_pos c]
        exact ⟨_, τ2, if_pos c, rfl, s2⟩
      · rw [if_neg c]; exact True.intro
theorem ve_lstOf {m : MA} {v : N (List α)} {b : Bool} {e e' : EP α} (h : VA m G v (eOne (eLi b e)) G1 X) (z : Fz (eLi b e) (eLi false e')) : VE (eLstOf m) G v (eLi true e') G1 X := fun τ s => by
  have : v = v.bind N.ok := by cases v <;> rfl
  rw [this]
  exact (h τ s).bind fun xs ds τ1 ⟨⟨d, e1, e2⟩, s1⟩ => by
    obtain ⟨es, k2, k3⟩ := z _ _ e2
    subst e1
    refine ⟨.lst true es, τ1, ?_, ⟨es, rfl, k3⟩, s1⟩
    show (match freezeL [d] with | [.lst _ es] => R.ok (D.lst true es) τ1 | [.tup es] => R.ok (D.lst true es) τ1 | _ => .bad) = _
    rw [show freezeL [d] = [freeze d] from rfl, k2]
theorem ve_cat {a b : ME} {v w u : N (List α)} {b1 b2 : Bool} {e1 e2 e' : EP α} (h : VE a G v (eLi b1 e1) G1 X) (k : VE b G1 w (eLi b2 e2) G2 X) (z : Fz (eLi b1 e1) (eLi false e')) (z' : Fz (eLi b2 e2) (eLi false e')) (hu : u = v.bind fun xs => w.bind fun ys => N.cat xs ys := by first | with_reducible rfl | simp only [N.bind_ok, N.bind_assoc] | rfl) : VE (eCat a b) G u (eLi true e') G2 X := fun τ s => by
  rw [hu]
  exact (h τ s).bind fun xs d τ1 ⟨k1, s1⟩ => (k τ1 s1).bind fun ys d' τ2 ⟨k2, s2⟩ => by
    obtain ⟨es, q1, q2⟩ := z _ _ k1
    obtain ⟨fs, q3, q4⟩ := z' _ _ k2
    show Sat (slE' (catD (freeze d) (freeze d')) τ2) _ _ _
    rw [q1, q3]
    unfold N.cat
    by_cases c : xs.length + ys.length ≤ 1000000
    · rw [if_pos c, vCat (by rw [q2.length, q4.length]; exact c)]
      exact ⟨_, τ2, rfl, ⟨_, rfl, q2.append q4⟩, s2⟩
    · rw [if_neg c]; exact True.intro
end
theorem nx_p2 {f : α → β → γ} : Nx2 (fun a b => .ok (f a b)) := fun _ _ _ h => by cases h
theorem nx_p1 {f : α → γ} : Nx1 (fun a => .ok (f a)) := fun _ _ h => by cases h
theorem nx_o {o : Option α} {c : Str} : N.o o ≠ .ex c := fun h => by cases o <;> cases h
theorem nx_gb {o : Option D} {c : Str} : N.gb o ≠ .ex c := fun h => by unfold N.gb at h; split at h <;> cases h
theorem nx_gi {o : Option D} {c : Str} : N.gi o ≠ .ex c := fun h => by unfold N.gi at h; split at h <;> cases h
theorem nx_mul : Nx2 N.mul := fun _ _ _ h => by unfold N.mul at h; split at h <;> cases h
theorem nx_div : Nx2 N.div := fun _ _ _ h => by unfold N.div at h; split at h <;> cases h
theorem nx_mod : Nx2 N.mod := fun _ _ _ h => by unfold N.mod at h; split at h <;> cases h
theorem nx_ix : Nx2 (N.ix (α := α)) := fun _ _ _ h => by unfold N.ix at h; exact nx_o h
theorem nx_gix : Nx2 N.gix := fun _ _ _ h => by
  unfold N.gix at h
  split at h
  · split at h <;> cases h
  · cases h
theorem nx_six : Nx2 N.six := fun _ _ _ h => by
  unfold N.six at h
  split at h
  · exact nx_o h
  · cases h
theorem nx_sadd : Nx2 N.sadd := fun _ _ _ h => by unfold N.sadd at h; split at h <;> cases h
theorem nx_slen : Nx1 N.slen := fun _ _ h => by unfold N.slen at h; split at h <;> cases h
theorem nx_str : Nx1 N.str := fun _ _ h => by unfold N.str at h; split at h <;> cases h
theorem nx_sin : Nx2 N.sin := fun _ _ _ h => by unfold N.sin at h; split at h <;> cases h
theorem nx_snotin : Nx2 (fun x y => N.not (N.sin x y)) := fun a b _ h => by
  replace h : N.not (N.sin a b) = _ := h
  unfold N.not at h
  cases e : N.sin a b with
  | ok b => rw [e] at h; cases h
  | ex c => exact nx_sin _ _ _ e
  | bad => rw [e] at h; cases h
theorem nx_gb2 {f : α → β → Option D} : Nx2 (fun a b => N.gb (f a b)) := fun _ _ _ h => nx_gb h
theorem nx_gb1 {f : α → Option D} : Nx1 (fun a => N.gb (f a)) := fun _ _ h => nx_gb h
theorem nx_gi1 {f : α → Option D} : Nx1 (fun a => N.gi (f a)) := fun _ _ h => nx_gi h
section
variable {σ κ ρ : Type}
theorem forN_cons {b : α → σ → NS σ σ ρ} {x : α} {xs : List α} {s : σ} : (forN b (x :: xs) s : NS σ κ ρ) = (match b x s with
    | .nx s' => forN b xs s' | .ct s' => forN b xs s' | .bk s' => .nx s' | .rt r => .rt r | .ex c => .ex c | .bad => .bad) := rfl
theorem forN_nx {b : α → σ → NS σ σ ρ} {x : α} {xs : List α} {s s' : σ} (h : b x s = .nx s') : (forN b (x :: xs) s : NS σ κ ρ) = forN b xs s' := by rw [forN_cons, h]
theorem forN_rt {b : α → σ → NS σ σ ρ} {x : α} {xs : List α} {s : σ} {r : ρ} (h : b x s = .rt r) : (forN b (x :: xs) s : NS σ κ ρ) = .rt r := by rw [forN_cons, h]
theorem whileN_end {c : σ → N Bool} {b : σ → NS σ σ ρ} {n : Nat} {s : σ} (h : c s = .ok false) : (whileN c b (n + 1) s : NS σ κ ρ) = .nx s := by
  unfold whileN; rw [h]
theorem whileN_step {c : σ → N Bool} {b : σ → NS σ σ ρ} {n : Nat} {s s' : σ} (h : c s = .ok true) (k : b s = .nx s') : (whileN c b (n + 1) s : NS σ κ ρ) = whileN c b n s' := by
  conv => lhs; unfold whileN
  simp only [h, k]
def N.gv (v : N α) (Q : α → Prop) : Prop := ∃ y, v = .ok y ∧ Q y
def NS.gv (n : NS σ κ ρ) (Qn : σ → Prop) (Qr : ρ → Prop) : Prop := (∃ s, n = .nx s ∧ Qn s) ∨ ∃ r, n = .rt r ∧ Qr r
end
end
end Bn
namespace Bn
open PySem PySem.Spec PyProof.Rows L2
section
variable {α β γ S S' : Type} {G G1 G2 : List Slot} {X : Env → Prop}
section
variable {σ κ ρ : Type} {G' : σ → List Slot} {L : κ → List Slot} {er : ρ → D → Env → Prop}
end
end
end Bn
namespace PySem
section
variable {prog : Program} {w : World} {A : Around} {E : Value → Shared → Prop} {s : Shared} {l : Addr} {xs : Array (Int × Tok)}
end
end PySem
namespace Bn
open PySem PySem.Spec PyProof.Rows L2
section
variable {X : Cx} {B : Bx} {W : WX}
end
@[irreducible] def N.split (z y : Str) : N (List Str) := if y.length ≠ 0 ∧ z.length ≤ 1000000 then .ok (Txt.split z y) else .bad
@[irreducible] def N.int (z : Str) : N Int := if z.length ≤ 640 then N.o (intText? z) else .bad
section
variable {α β γ : Type} {G G1 G2 : List Slot} {X : Env → Prop}
theorem al_strs (ns : List Str) : Al eS ns (ns.map D.str) := by
  induction ns with
  | nil => exact .nil
  | cons n ns ih => exact .cons rfl ih
theorem ve_split {a b : ME} {v w : N Str} {u : N (List Str)} (h : VE a G v eS G1 X) (k : VE b G1 w eS G2 X) (hu : u = v.bind fun z => w.bind fun y => N.split z y := by first | with_reducible rfl | simp only [N.bind_ok, N.bind_assoc] | rfl) : VE (eSplit a b) G u (eLi true eS) G2 X := fun τ s => by
  rw [hu]
  exact (h τ s).bind fun z d τ1 ⟨k1, s1⟩ => by
    cases (show d = .str z from k1)
    exact (k τ1 s1).bind fun y d τ2 ⟨k2, s2⟩ => by
      cases (show d = .str y from k2)
      show Sat (splitR z y τ2) (N.split z y) _ _
      unfold splitR N.split
      by_cases c : y.length ≠ 0 ∧ z.length ≤ 1000000
      · rw [if_pos c, if_pos c]
        exact ⟨_, τ2, rfl, ⟨_, rfl, al_strs _⟩, s2⟩
      · rw [if_neg c, if_neg c]; exact True.intro
theorem c_intS : Cl gIntS N.int (eOne eS) eI := fun x ds c ⟨d, q, q2⟩ h => by
  subst q; cases (show d = _ from q2)
  unfold N.int at h
  by_cases w : x.length ≤ 640
  · rw [if_pos w] at h
    have h := N.o_ok h
    exact ⟨.int c, by show (if x.length ≤ 640 then (intText? x).map D.int else none) = _; rw [if_pos w, h]; rfl, rfl⟩
  · rw [if_neg w] at h; cases h
theorem nx_int : Nx1 N.int := fun _ _ h => by
  unfold N.int at h
  split at h
  · exact nx_o h
  · cases h
theorem ve_is {o : Option Bool} : VE (eIs o) G (N.o o) eB G X := fun τ s => by
  cases o with
  | none => exact True.intro
  | some b => exact ⟨.bl b, τ, rfl, rfl, s⟩
def NS.tr {σ κ ρ : Type} (b : NS σ κ ρ) (sub : Str → Option Bool) (su : Str → NS σ κ ρ) : NS σ κ ρ := match b with
  | .ex c => (match sub c with
    | some true => (match su c with
      | .ex _ => .bad
      | r => r)
    | some false => .ex c
    | none => .bad)
  | r => r
section
variable {σ σ' κ ρ : Type} {G' : σ → List Slot} {L : κ → List Slot} {er : ρ → D → Env → Prop}
theorem vs_tryAs {i : Nat} {sub : Str → Option Bool} {b r : MS} {su : Str → MS} {GX : List Slot} {GS GJ : σ' → List Slot} {nb : NS σ' κ ρ} {ns : Str → NS σ' κ ρ} {k : σ' → NS σ κ ρ} (hi : i < GX.length) (hb : VS b G nb GJ L er (Is GX)) (hs : ∀ c, VS (su c) (put GX i .any) (ns c) GS L er X) (hj : ∀ s, Ent (put (GS s) i .any) (GJ s)) (hl : ∀ l, Ent (put (L l) i .any) (L l)) (hx : ∀ τ, Is GX τ → X τ) (hr : ∀ s, VS r (GJ s) (k s) G' L er X) : VS (sSeq (sTryAs i sub b su) r) G ((NS.tr nb sub ns).s k) G' L er X := fun τ s => by
  refine SatS.seq (r := sTryAs i sub b su τ) (G1 := GJ) ?_ fun s τ q => hr s τ q
  have q := hb τ s
  unfold sTryAs NS.tr
  cases nb with
  | nx s => obtain ⟨τ', e, p⟩ := q; rw [e]; exact ⟨τ', rfl, p⟩
  | bk s => obtain ⟨τ', e, p⟩ := q; rw [e]; exact ⟨τ', rfl, p⟩
  | ct s => obtain ⟨τ', e, p⟩ := q; rw [e]; exact ⟨τ', rfl, p⟩
  | rt s => obtain ⟨d, τ', e, p⟩ := q; rw [e]; exact ⟨d, τ', rfl, p⟩
  | bad => exact True.intro
  | ex c =>
    obtain ⟨τ', e, p⟩ := q
    rw [e]
    show SatS (tryAs i (sub c) c τ' su) (match sub c with | some true => (match ns c with | .ex _ => .bad | r => r) | some false => .ex c | none => .bad) _ _ _ _
    unfold tryAs
    cases es : sub c with
    | none => exact True.intro
    | some t =>
      cases t with
      | false => exact ⟨τ', rfl, hx _ p⟩
      | true =>
        show SatS (if i < τ'.length then endAs i (su c (τ'.set i none)) else .bad) _ _ _ _ _
        rw [if_pos (by rw [p.len]; exact hi)]
        have q2 := hs c (τ'.set i none) (Is.put (q := Slot.any) (o := none) True.intro i p)
        show SatS _ (match ns c with | .ex _ => .bad | r => r) _ _ _ _
        cases en : ns c with
        | nx s =>
          rw [en] at q2; obtain ⟨τ2, e2, p2⟩ := q2; rw [e2]
          exact ⟨τ2.set i none, rfl, hj s _ (Is.put (q := Slot.any) (o := none) True.intro i p2)⟩
        | bk s =>
          rw [en] at q2; obtain ⟨τ2, e2, p2⟩ := q2; rw [e2]
          exact ⟨τ2.set i none, rfl, hl s _ (Is.put (q := Slot.any) (o := none) True.intro i p2)⟩
        | ct s =>
          rw [en] at q2; obtain ⟨τ2, e2, p2⟩ := q2; rw [e2]
          exact ⟨τ2.set i none, rfl, hl s _ (Is.put (q := Slot.any) (o := none) True.intro i p2)⟩
        | rt s => rw [en] at q2; obtain ⟨d, τ2, e2, p2⟩ := q2; rw [e2]; exact ⟨d, τ2, rfl, p2⟩
        | ex c => exact True.intro
        | bad => exact True.intro
end
theorem VF.ok {f : List D → CR} {n : α → N γ} {ea : EL α} {er : EP γ} (h : VF f n ea er) {a : α} {ds : List D} {b : γ} (k : ea a ds) (q : n a = .ok b) : ∃ d, f ds = .ok d ∧ er b d := by
  have := h a ds k
  rw [q] at this
  exact this
end
section
variable {X : Cx} {B : Bx} {W : WX}
end
section
variable {α β γ S σ κ ρ : Type} {G G1 : List Slot} {X : Env → Prop} {G' : σ → List Slot} {L : κ → List Slot} {er : ρ → D → Env → Prop}
end
section
variable {α : Type} {G G1 : List Slot} {X : Env → Prop}
end
end Bn
namespace Bn
open PySem PySem.Spec PyProof.Rows L2 PySem.W
section
variable {X : Cx}
end
section
variable {X : Cx} {B : Bx} {W : WX}
end
section
variable {X : Cx} {B : Bx} {W : WX}
end
section
variable {α : Type} {G G1 : List Slot} {X : Env → Prop}
end
section
variable {α β : Type} {G GI : List Slot} {X : Env → Prop}
end
end Bn
namespace Bn
open PySem PySem.Spec PyProof.Rows L2
def keyD : D → Option Key
  | .int i => some (.inl i)
  | .str s => some (.inr s)
  | _ => none
section
variable {K : PySem.W.Frag} {ca : Str → Addr} {F H : Hp}
end
section
variable {X : Cx} {B : Bx} {W : WX}
end
section
variable {κ α β ρ σ κ' : Type} [DecidableEq κ] {G G1 : List Slot} {X : Env → Prop}
structure KeyE (ek : EP κ) (kf : κ → Key) : Prop where
  k : ∀ x d, ek x d → keyD d = some (kf x)
  i : ∀ x y, kf x = kf y → x = y
def dkGet : List (κ × α) → κ → Option α
  | [], _ => none
  | p :: l, k => if p.1 = k then some p.2 else dkGet l k
variable {G' : σ → List Slot} {L : κ' → List Slot} {er : ρ → D → Env → Prop}
end
end Bn
namespace Bn
open PySem PySem.Spec PyProof.Rows L2
universe u
inductive CR3 where
  | ok (d : D) (outs : Env)
  | ex (c : Str) (outs : Env)
  | bad
def pick {α : Type u} : List Bool → List α → List α
  | true :: m, x :: xs => x :: pick m xs
  | false :: m, _ :: xs => pick m xs
  | _, _ => []
structure Fra (F F' H H' : Hp) (f g : Ct) : Prop where
  ff : Same F F'
  fh : Same F' H'
  hh : ∀ a o, f a = 0 → H a = some o → H' a = some o
  nd : ∀ a, g a ≤ 1
  dF : ∀ a, 0 < g a → F' a = none ∧ (H a = none ∨ 0 < f a)
  fr : ∀ a, F' a ≠ none → F a ≠ none ∨ H a = none ∨ 0 < f a
def spG (K : PySem.W.Frag) (ca : Str → Addr) (mask : List Bool) (g : List D → CR3) : Sp := fun vs H Q E => ∃ F f as, RepOs K ca F H as vs f ∧ Same F H ∧ (∀ a, f a ≤ 1) ∧ (∀ a, 0 < f a → F a = none) ∧
  match g as with
  | .ok d outs => ∀ v F' H' g1 g2, Fra F F' H H' f (fun b => g1 b + g2 b) → RepO K ca F' H' d v g1 → Sl K ca F' H' outs ((pick mask vs).map some) g2 → Q v H'
  | .ex c outs => ∀ F' H' g2, Fra F F' H H' f g2 → Sl K ca F' H' outs ((pick mask vs).map some) g2 → E (.ref (ca c)) none H'
  | .bad => False
structure FoG (P : Program) (w : World) (K : PySem.W.Frag) (mg : Str → Option Value) (base : Heap) (ca : Str → Addr) (k : Nat) (x : Str) (mask : List Bool) (g : List D → CR3) : Prop where
  ex : ∃ f fd ps, mg x = some (.ref f) ∧ PySem.W.keepIn K (.ref f) = true ∧ Binds K fd ps [] ∧ FnOk P w K mg base (L2.CX P w) k f fd ps (spG K ca mask g)
section
variable {K : PySem.W.Frag} {ca : Str → Addr} {F H : Hp}
end
section
variable {P : Program} {w : World} {K : PySem.W.Frag} {mg : Str → Option Value} {base : Heap} {ca : Str → Addr}
end
section
variable {K : PySem.W.Frag} {ca : Str → Addr} {F H : Hp}
end
section
variable {K : PySem.W.Frag} {B : Bx} {W : WX}
end
section
variable {X : Cx} {B : Bx} {W : WX}
end
section
variable {X : Cx} {B : Bx} {W : WX}
end
section
variable {X : Cx} {B : Bx} {W : WX}
end
end Bn
namespace Bn
open PySem PySem.Spec PyProof.Rows L2
section
variable {α β γ δ ρ σ κ : Type}
variable {G G1 G2 : List Slot} {X : Env → Prop}
end
section
variable {α β γ : Type} {G G1 : List Slot} {X : Env → Prop}
end
section
variable {α : Type} {G G2 G3 : List Slot} {X : Env → Prop}
end
theorem xg {G GX : List Slot} (h : Ent G GX) : ∀ τ, Is G τ → Is GX τ := h
section
variable {S ρ σ σ' κ : Type} {G : List Slot} {GS : S → List Slot} {X : Env → Prop} {G' : σ → List Slot} {L : κ → List Slot} {er : ρ → D → Env → Prop}
end
end Bn
namespace Bn
open PySem PySem.Spec PyProof.Rows L2
section
variable {α β γ ρ σ σ' κ : Type} {G G1 : List Slot} {G' : σ → List Slot} {L : κ → List Slot} {er : ρ → D → Env → Prop} {X : Env → Prop}
theorem Al.at' {e : EP α} {xs : List α} {ds : List D} (h : Al e xs ds) : ∀ {n : Nat} {x : α}, xs[n]? = some x → ∃ d, ds[n]? = some d ∧ e x d := by
  induction h with
  | nil => intro n x h; simp at h
  | cons a b ih =>
    intro n x h
    cases n with
    | zero => cases h; exact ⟨_, rfl, a⟩
    | succ n => exact ih h
theorem Al.snoc {e : EP α} {xs : List α} {ds : List D} {x : α} {d : D} (h : Al e xs ds) (k : e x d) : Al e (xs ++ [x]) (ds ++ [d]) := h.append (.cons k .nil)
end
end Bn
namespace Bn
section
open PySem PySem.Spec PyProof.Rows L2
end
open PySem PySem.Spec PyProof.Rows L2
section
variable {α β γ ρ σ σ' κ : Type} {G G1 : List Slot} {G' : σ → List Slot} {L : κ → List Slot} {er : ρ → D → Env → Prop} {X : Env → Prop}
end
end Bn
namespace Bn
open PySem PySem.Spec PyProof.Rows L2
section
variable {α β γ ρ σ σ' κ : Type} {G G1 : List Slot} {G' : σ → List Slot} {L : κ → List Slot} {er : ρ → D → Env → Prop} {X : Env → Prop}
end
end Bn
namespace Bn
open PySem PySem.Spec PyProof.Rows L2
section
variable {X : Cx} {B : Bx} {W : WX}
end
section
variable {X : Cx} {B : Bx} {W : WX}
end
section
variable {X : Cx} {B : Bx} {W : WX}
end
section
variable {α β γ ρ σ σ' κ : Type} {G G1 : List Slot} {G' : σ → List Slot} {L : κ → List Slot} {er : ρ → D → Env → Prop} {X : Env → Prop}
end
end Bn
namespace Bn
open PySem PySem.Spec PyProof.Rows L2
section
variable {X : Cx} {B : Bx} {W : WX}
end
section
variable {X : Cx} {B : Bx} {W : WX}
end
section
variable {G : List Slot} {X : Env → Prop}
section
variable {α ρ σ κ : Type} {G' : σ → List Slot} {L : κ → List Slot} {er : ρ → D → Env → Prop}
end
end
section
variable {S : Type} {G G1 : List Slot} {GS : S → List Slot} {X : Env → Prop}
end
end Bn
namespace Bn
open PySem PySem.Spec PyProof.Rows L2
section
variable {K : PySem.W.Frag} {B : Bx} {W : WX}
end
section
variable {X : Cx} {B : Bx} {W : WX}
theorem PE.two {e : Expr} {t t1 t2 : TE} (h1 : PE X e t1) (h2 : PE X e t2) (k : ∀ σ H Q, t σ H Q → t1 σ H Q ∨ t2 σ H Q) : PE X e t := ⟨fun p s σ H Q I q => (k _ _ _ q).elim (h1.run p s σ H Q I) (h2.run p s σ H Q I)⟩
end
section
variable {σ κ ρ : Type} {G : List Slot} {X : Env → Prop}
end
section
variable {α β γ : Type} {G G1 : List Slot} {X : Env → Prop}
end
section
variable {α : Type} {G G1 : List Slot} {X : Env → Prop}
end
end Bn
namespace Bn
open PySem PySem.Spec PyProof.Rows L2
structure Src where
  It : Heap → Addr → Addr → Nat → Prop
  Sq : Heap → Addr → Array Value → Prop
  itUp : ∀ {h h' : Heap} {i l : Addr} {k : Nat}, It h i l k → (∀ o, h.get? i = some o → h'.get? i = some o) → It h' i l k
  sqUp : ∀ {h h' : Heap} {l : Addr} {xs : Array Value}, Sq h l xs → (∀ o, h.get? l = some o → h'.get? l = some o) → Sq h' l xs
  itOb : ∀ {h : Heap} {i l : Addr} {k : Nat}, It h i l k → ∃ o, h.get? i = some o ∧ ∀ v, o.data ≠ .cell v
  nx : ∀ {prog : Program} {w : World} {A : Around} {E Q : Value → Shared → Prop} {s : Shared} {it l : Addr} {i : Nat} {xs : Array Value} {x : Value}, It s.heap it l i → Sq s.heap l xs → xs[i]? = some x →
    (∀ h', It h' it l (i + 1) → Heap.SameBut it s.heap h' → Q x { s with heap := h' }) → wpAny (model prog w) A (Builtin.SmallTypes.nextOf (.ref it)) Q E s
  no : ∀ {prog : Program} {w : World} {A : Around} {E Q : Value → Shared → Prop} {s : Shared} {it l : Addr} {i : Nat} {xs : Array Value}, A.handled = none → It s.heap it l i → Sq s.heap l xs → xs[i]? = none →
    (∀ h' e, Heap.ExtBut it s.heap h' → (∃ o, h'.get? e = some o ∧ o.cls = .type "StopIteration") → E (.ref e) { s with heap := h' }) → wpAny (model prog w) A (Builtin.SmallTypes.nextOf (.ref it)) Q E s
section
variable {prog : Program} {w : World} {A : Around} {E : Value → Shared → Prop} {s : Shared} {S1 S2 : Src}
end
section
variable {prog : Program} {w : World} {A : Around} {E : Value → Shared → Prop} {s : Shared}
end
section
variable {X : Cx} {B : Bx} {W : WX}
end
section
variable {α β : Type} {G G1 : List Slot} {X : Env → Prop}
theorem o_ixq {e : EP α} : Op gIx N.ix (eLq e e) eI e := fun xs i d1 d2 c h1 h3 q => by
  rcases h1 with h1 | h1
  · exact o_ix xs i d1 d2 c h1 h3 q
  · exact o_ix xs i d1 d2 c h1 h3 q
end
end Bn
namespace Bn
open PySem PySem.Spec PyProof.Rows L2
structure MFoG (P : Program) (w : World) (K : PySem.W.Frag) (mg : Str → Option Value) (base : Heap) (ca : Str → Addr) (k : Nat) (c m : Str) (mask : List Bool) (g : List D → CR3) : Prop where
  ex : ∃ f fd ps, Meth K (ca c) m f ∧ Binds K fd ps [] ∧ FnOk P w K mg base (L2.CX P w) k f fd ps (spG K ca mask g)
  cl : Cls K (ca c)
section
variable {X : Cx} {B : Bx} {W : WX}
end
end Bn
namespace Bn
open PySem PySem.Spec PyProof.Rows L2
def kLook (z : Str) : List (Str × D) → Option D
  | [] => none
  | p :: r => if p.1 = z then some p.2 else kLook z r
structure Kd (K : PySem.W.Frag) (w : World) (mg : Str → Option Value) (x : Str) (kvs : List (Str × D)) : Prop where
  ex : ∃ a es n, mg x = some (.ref a) ∧ L2.KDict K w a es n ∧ ∀ z, (kLook z kvs = none ∧ PySem.W.nsIn K a z = some none) ∨ ∃ d u v, kLook z kvs = some d ∧ PySem.W.nsIn K a z = some (some u) ∧ RelV v u ∧ ∀ ca F, Rep K ca F d v
def eKdIn (neg : Bool) (kvs : List (Str × D)) (m : ME) : ME := fun τ => (m τ).bind fun d τ1 => match d with
  | .str z => .ok (.bl (if neg = true then !(kLook z kvs).isSome else (kLook z kvs).isSome)) τ1
  | _ => .bad
def kdR (z : Str) (kvs : List (Str × D)) (τ : Env) : R D := match kLook z kvs with
  | some d => .ok d τ
  | none => .bad
def eKdIx (kvs : List (Str × D)) (m : ME) : ME := fun τ => (m τ).bind fun d τ1 => match d with
  | .str z => kdR z kvs τ1
  | _ => .bad
section
variable {X : Cx} {B : Bx} {W : WX} {e : Expr} {m : ME} {N : Str} {p pos : Pos} {kvs : List (Str × D)}
theorem imp_kdNotIn {a : Addr} (hz : ∀ z, (kLook z kvs = none ∧ PySem.W.nsIn X.K a z = some none) ∨ ∃ d u v, kLook z kvs = some d ∧ PySem.W.nsIn X.K a z = some (some u) ∧ RelV v u ∧ ∀ ca F, Rep X.K ca F d v) (σ : L2.St) (H : Hp) (Q : VK) (h : rdE X.K B W (eKdIn true kvs m) σ H Q) :
    tOp (fun x y H Q => ∃ (z : Str) (r : Option Value), x = .str z ∧ y = .ref a ∧ PySem.W.nsIn X.K a z = some r ∧ Q (.bl (!r.isSome)) H) (rdE X.K B W m) (tC (.ref a)) σ H Q := by
  obtain ⟨F, τ, vs, ds, s, h⟩ := h
  refine ⟨F, τ, vs, ds, s, post_imp (post_bind h) (fun d τ1 q x F1 H1 s1 => ?_) fun _ _ q => q⟩
  cases d with
  | str z =>
    rw [show x = V.str z from s1.topF rfl]
    dsimp only at q
    rcases hz z with ⟨e1, e2⟩ | ⟨d, u, v, e1, e2, _, _⟩
    · rw [e1] at q
      exact ⟨z, none, rfl, rfl, e2, q (.bl true) F1 H1 (s1.pop.push (d := .bl true) rfl)⟩
    · rw [e1] at q
      exact ⟨z, some u, rfl, rfl, e2, q (.bl false) F1 H1 (s1.pop.push (d := .bl false) rfl)⟩
  | _ => exact False.elim q
theorem t_kdNotIn (k : Kd X.K X.w X.mg N kvs) (hg : Gl X N) (he : PE X e (rdE X.K B W m)) (hd : (N == ("__debug__" : Str)) = false := by decide) (hm : behindInMarks .NotIn (.Name N p) = false := by first | exact nomark _ | rfl) :
    PT X (.Compare e [.NotIn] [.Name N p] pos) (rdT X.K B W (tE (eKdIn true kvs m))) := by
  obtain ⟨a, es, n, h1, kd, hz⟩ := k.ex
  exact PT.imp (pt_cmpR (op_notIn_kd kd) he (pe_glob (v := .ref a) hg h1 rfl hd) hm) fun σ H Q h => imp_kdNotIn hz σ H _ (impTE σ H Q h)
theorem e_kdIx (k : Kd X.K X.w X.mg N kvs) (hg : Gl X N) (he : PE X e (rdE X.K B W m)) (hd : (N == ("__debug__" : Str)) = false := by decide) (hp : PlainIx e := by exact fun _ _ => rfl) :
    PE X (.Subscript (.Name N p) e pos) (rdE X.K B W (eKdIx kvs m)) := by
  obtain ⟨a, es, n, h1, kd, hz⟩ := k.ex
  refine PE.imp (pe_ix ix_kdict (pe_glob (v := .ref a) hg h1 rfl hd) he hp) fun σ H Q ⟨F, τ, vs, ds, s, h⟩ => ?_
  refine ⟨F, τ, vs, ds, s, post_imp (post_bind h) (fun d τ1 q x F1 H1 s1 => ?_) fun _ _ q => q⟩
  cases d with
  | str z =>
    rw [show x = V.str z from s1.topF rfl]
    replace q := (show post _ _ (kdR z kvs τ1) from q)
    unfold kdR at q
    rcases hz z with ⟨e1, e2⟩ | ⟨d, u, v, e1, e2, e3, e4⟩
    · rw [e1] at q; exact False.elim q
    · rw [e1] at q
      exact ⟨a, z, v, rfl, rfl, ⟨es, n, u, kd.at_, kd.lit, e2, e3⟩, q v F1 H1 (s1.pop.push (d := d) (e4 _ _))⟩
  | _ => exact False.elim q
end
theorem kLook_none {z : Str} : ∀ {kvs : List (Str × D)}, kLook z kvs = none → z ∉ kvs.map Prod.fst
  | [], _ => by simp
  | p :: r, h => by
    unfold kLook at h
    by_cases c : p.1 = z
    · rw [if_pos c] at h; cases h
    · rw [if_neg c] at h
      rw [List.map_cons, List.mem_cons, not_or]
      exact ⟨fun q => c q.symm, kLook_none h⟩
theorem kLook_some {z : Str} {d : D} : ∀ {kvs : List (Str × D)}, kLook z kvs = some d → ∃ p ∈ kvs, p.1 = z ∧ p.2 = d
  | [], h => by cases h
  | p :: r, h => by
    unfold kLook at h
    by_cases c : p.1 = z
    · rw [if_pos c] at h; cases h
      exact ⟨p, List.mem_cons_self, c, rfl⟩
    · rw [if_neg c] at h
      obtain ⟨p', a, b⟩ := kLook_some h
      exact ⟨p', List.mem_cons_of_mem _ a, b⟩
section
variable {σ κ ρ : Type}
def kTy {α : Type} (e : EP α) (l : List (Str × α)) (kvs : List (Str × D)) : Prop := ∀ z, match dkGet l z with
  | some a => ∃ d, kLook z kvs = some d ∧ e a d
  | none => kLook z kvs = none
theorem kty_nil {α : Type} {e : EP α} : kTy e [] [] := fun z => rfl
theorem kty_cons {α : Type} {e : EP α} {s : Str} {a : α} {d : D} {l : List (Str × α)} {kvs : List (Str × D)} (h : e a d) (r : kTy e l kvs) : kTy e ((s, a) :: l) ((s, d) :: kvs) := fun z => by
  unfold dkGet kLook
  by_cases c : s = z
  · rw [if_pos c, if_pos c]; exact ⟨d, rfl, h⟩
  · rw [if_neg c, if_neg c]; exact r z
@[irreducible] def kdInN {α : Type} (neg : Bool) (l : List (Str × α)) (z : Str) : Bool := if neg = true then !(dkGet l z).isSome else (dkGet l z).isSome
variable {G G1 : List Slot} {X : Env → Prop}
theorem ve_kdIn {α : Type} {neg : Bool} {m : ME} {v : N Str} {u : N Bool} {e : EP α} {l : List (Str × α)} {kvs : List (Str × D)} (t : kTy e l kvs) (h : VE m G v eS G1 X) (hu : u = v.bind fun z => .ok (kdInN neg l z) := by first | with_reducible rfl | simp only [N.bind_ok, N.bind_assoc] | rfl) : VE (eKdIn neg kvs m) G u eB G1 X := fun τ s => by
  rw [hu]
  exact (h τ s).bind fun z d τ1 ⟨k1, s1⟩ => by
    cases (show d = .str z from k1)
    refine ⟨_, τ1, rfl, ?_, s1⟩
    have q := t z
    unfold kdInN
    cases e1 : dkGet l z with
    | none => rw [e1] at q; dsimp only at q; rw [q]; rfl
    | some a => rw [e1] at q; obtain ⟨d, q, _⟩ := q; rw [q]; rfl
@[irreducible] def kdIxN {α : Type} (l : List (Str × α)) (z : Str) : N α := N.o (dkGet l z)
theorem ve_kdIx {α : Type} {m : ME} {v : N Str} {u : N α} {e : EP α} {l : List (Str × α)} {kvs : List (Str × D)} (t : kTy e l kvs) (h : VE m G v eS G1 X) (hu : u = v.bind fun z => kdIxN l z := by first | with_reducible rfl | simp only [N.bind_ok, N.bind_assoc] | rfl) : VE (eKdIx kvs m) G u e G1 X := fun τ s => by
  rw [hu]
  exact (h τ s).bind fun z d τ1 ⟨k1, s1⟩ => by
    cases (show d = .str z from k1)
    show Sat (kdR z kvs τ1) (kdIxN l z) _ _
    have q := t z
    unfold kdR kdIxN N.o
    cases e1 : dkGet l z with
    | none => rw [e1] at q; dsimp only at q; rw [q]; exact True.intro
    | some a => rw [e1] at q; obtain ⟨d, q, q2⟩ := q; rw [q]; exact ⟨d, τ1, rfl, q2, s1⟩
end
def repD : D → D → Option D
  | .lst false xs, .int k => if xs.length * k.toNat ≤ 1000000 ∧ -4611686018427387904 ≤ k ∧ k < 4611686018427387904 then some (.lst true (List.replicate k.toNat xs).flatten) else none
  | _, _ => none
def eRep (a b : ME) : ME := fun τ => (a τ).bind fun x τ1 => (b τ1).bind fun y τ2 => slE' (repD (freeze x) (freeze y)) τ2
theorem repL_rep {K : PySem.W.Frag} {ca : Str → Addr} {F : Hp} {xs : List D} {us : List V} (h : RepL K ca F xs us) : ∀ n : Nat, RepL K ca F (List.replicate n xs).flatten (List.replicate n us).flatten
  | 0 => rfl
  | n + 1 => by
    rw [List.replicate_succ, List.replicate_succ, List.flatten_cons, List.flatten_cons]
    exact h.append (repL_rep h n)
section
variable {X : Cx} {B : Bx} {W : WX}
theorem e_rep {a b : Expr} {pos : Pos} {m n : ME} (ha : PE X a (rdE X.K B W m)) (hb : PE X b (rdE X.K B W n)) : PE X (.BinOp a .Mult b pos) (rdE X.K B W (eRep m n)) := PE.imp (pe_op op_rep ha hb) fun σ H Q h => by
  obtain ⟨F, τ, vs, ds, s, p⟩ := h
  refine ⟨F, τ, vs, ds, s, post_imp (post_bind p) (fun x τ1 q v F1 H1 s1 => ⟨F1, τ1, _, _, s1, post_imp (post_bind q) (fun y τ2 q w F2 H2 s2 => ?_) fun c τ2 q F2 H2 s2 => q F2 H2 s2.pop⟩) fun _ _ q => q⟩
  obtain ⟨F3, sm, ⟨w', r', e1, r1, ⟨v', r'', e2, r2, _⟩⟩, s3⟩ := StT.freeze (us := [w, v]) (es := [y, x]) s2 rfl
  cases e1; cases e2
  cases ex : freeze x with
  | lst m1 xs =>
    cases ey : freeze y with
    | int k =>
      rw [ex, ey] at q
      rw [ex] at r2; rw [ey] at r1
      cases m1 with
      | true => exact q.elim
      | false =>
        replace q : post _ _ (slE' (if xs.length * k.toNat ≤ 1000000 ∧ -4611686018427387904 ≤ k ∧ k < 4611686018427387904 then some (.lst true (List.replicate k.toNat xs).flatten) else none) τ2) := q
        by_cases z : xs.length * k.toNat ≤ 1000000 ∧ -4611686018427387904 ≤ k ∧ k < 4611686018427387904
        · rw [if_pos z] at q
          obtain ⟨a1, us1, rfl, k1, k2⟩ := r2
          have r1 : w = V.int k := r1
          subst r1
          have h1 := k2.length
          refine ⟨a1, k, us1, rfl, rfl, s3.same _ _ k1, ?_, ?_, ?_, fun p hp => ?_⟩
          · have := z.2.1; have e : (-(2 ^ 63) : Int) = -9223372036854775808 := by decide
            rw [e]; omega
          · have := z.2.2; have e : ((2 ^ 63) : Int) = 9223372036854775808 := by decide
            rw [e]; omega
          · rw [h1]; exact le_sizeLine z.1
          · have k3 := repL_rep k2 k.toNat
            exact q _ _ _ ((s3.pushL k3).newLst k3.length hp)
        · rw [if_neg z] at q; exact q.elim
    | _ => rw [ex, ey] at q; cases m1 <;> exact q.elim
  | _ => rw [ex] at q; exact q.elim
end
section
variable {α : Type} {G G1 G2 : List Slot} {X : Env → Prop}
@[irreducible] def N.rep (xs : List α) (k : Int) : N (List α) := if xs.length * k.toNat ≤ 1000000 ∧ -4611686018427387904 ≤ k ∧ k < 4611686018427387904 then .ok (List.replicate k.toNat xs).flatten else .bad
theorem al_rep {e : EP α} {xs : List α} {ds : List D} (h : Al e xs ds) : ∀ n : Nat, Al e (List.replicate n xs).flatten (List.replicate n ds).flatten
  | 0 => .nil
  | n + 1 => by
    rw [List.replicate_succ, List.replicate_succ, List.flatten_cons, List.flatten_cons]
    exact h.append (al_rep h n)
theorem ve_rep {a b : ME} {v u : N (List α)} {w : N Int} {b1 : Bool} {e1 e' : EP α} (h : VE a G v (eLi b1 e1) G1 X) (k : VE b G1 w eI G2 X) (z : Fz (eLi b1 e1) (eLi false e')) (hu : u = v.bind fun xs => w.bind fun y => N.rep xs y := by first | with_reducible rfl | simp only [N.bind_ok, N.bind_assoc] | rfl) : VE (eRep a b) G u (eLi true e') G2 X := fun τ s => by
  rw [hu]
  exact (h τ s).bind fun xs d τ1 ⟨k1, s1⟩ => (k τ1 s1).bind fun y d' τ2 ⟨k2, s2⟩ => by
    obtain ⟨es, q1, q2⟩ := z _ _ k1
    cases (show d' = .int y from k2)
    show Sat (slE' (repD (freeze d) (.int y)) τ2) _ _ _
    rw [q1]
    unfold N.rep
    by_cases c : xs.length * y.toNat ≤ 1000000 ∧ -4611686018427387904 ≤ y ∧ y < 4611686018427387904
    · rw [if_pos c]
      refine ⟨.lst true (List.replicate y.toNat es).flatten, τ2, ?_, ⟨_, rfl, al_rep q2 _⟩, s2⟩
      show slE' (if es.length * y.toNat ≤ 1000000 ∧ -4611686018427387904 ≤ y ∧ y < 4611686018427387904 then some (.lst true (List.replicate y.toNat es).flatten) else none) τ2 = _
      rw [if_pos (by rw [q2.length]; exact c)]; rfl
    · rw [if_neg c]; exact True.intro
end
def keyT (e : DictEntry) : Option Str := match e.key with
  | .str x _ => some x
  | _ => none
theorem keyT_str {e : DictEntry} {k : Str} (h : keyT e = some k) (z : Str) : e.key.isStr z = decide (k = z) ∧ e.refKey = false := by
  unfold keyT at h
  cases q : e.key with
  | str x t =>
    rw [q] at h
    have h5 : x = k := Option.some.inj h
    subst h5
    refine ⟨?_, ?_⟩
    · show (x == z) = _
      by_cases c : x = z
      · rw [decide_eq_true c]; subst c; exact beq_self_eq_true _
      · rw [decide_eq_false c]; exact beq_eq_false_iff_ne.mpr c
    · unfold DictEntry.refKey; rw [q]
  | _ => rw [q] at h; cases h
theorem keyT_none {z : Str} : ∀ {l : List DictEntry} {ks : List Str}, l.map keyT = ks.map some → z ∉ ks → l.find? (·.key.isStr z) = none ∧ l.any (·.refKey) = false
  | [], _, _, _ => ⟨rfl, rfl⟩
  | e :: r, [], h, _ => by cases h
  | e :: r, k :: ks, h, hz => by
    have h1 : keyT e :: r.map keyT = some k :: ks.map some := h
    injection h1 with h2 h3
    obtain ⟨a, b⟩ := keyT_str h2 z
    obtain ⟨c, d⟩ := keyT_none h3 fun q => hz (List.mem_cons_of_mem _ q)
    refine ⟨?_, ?_⟩
    · rw [List.find?_cons, a, decide_eq_false fun q => hz (by rw [q]; exact List.mem_cons_self)]; exact c
    · rw [List.any_cons, b, d, Bool.or_false]
theorem kd_K {K : PySem.W.Frag} {w : World} {mg : Str → Option Value} {x : Str} {kvs : List (Str × D)} {a : Addr} {es : Array DictEntry} {n : Nat} (h : mg x = some (.ref a)) (h1 : K.lookup a = some ⟨.type "dict", none, .dict es n, #[]⟩) (h2 : PySem.W.KeysLit w.params es.toList) (h3 : (a == sysModules) = false)
    (h4 : es.toList.map keyT = (kvs.map Prod.fst).map some) (h5 : ∀ p ∈ kvs, ∃ u v, PySem.W.nsIn K a p.1 = some (some u) ∧ RelV v u ∧ ∀ ca F, Rep K ca F p.2 v) : Kd K w mg x kvs := by
  refine ⟨a, es, n, h, ⟨h1, h2, h3⟩, fun z => ?_⟩
  cases e : kLook z kvs with
  | none =>
    refine .inl ⟨rfl, ?_⟩
    obtain ⟨p1, p2⟩ := keyT_none h4 (kLook_none e)
    unfold PySem.W.nsIn
    rw [h1]
    dsimp only
    rw [p1, p2]; rfl
  | some d =>
    obtain ⟨p, hp, e1, e2⟩ := kLook_some e
    obtain ⟨u, v, u1, u2, u3⟩ := h5 p hp
    subst e1; subst e2
    exact .inr ⟨p.2, u, v, rfl, u1, u2, u3⟩
end Bn
namespace Lw
open PySem PySem.Spec PyProof.Rows L2 Bn
theorem sc_look_at_brackets : FnScope ["words", "deep", "word"] ["words"] (defScope s_look_at_brackets) := ⟨rfl, rfl, rfl, by decide +kernel, rfl, by decide +kernel, by decide +kernel⟩
theorem sc_word_at : FnScope ["words", "at"] ["words", "at"] (defScope s_word_at) := ⟨rfl, rfl, rfl, by decide +kernel, rfl, by decide +kernel, by decide +kernel⟩
theorem sc_is_name : FnScope ["word", "sign"] ["word"] (defScope s_is_name) := ⟨rfl, rfl, rfl, by decide +kernel, rfl, by decide +kernel, by decide +kernel⟩
theorem sc_whole_of : FnScope ["figures", "sign"] ["figures"] (defScope s_whole_of) := ⟨rfl, rfl, rfl, by decide +kernel, rfl, by decide +kernel, by decide +kernel⟩
theorem sc_divisor : FnScope ["a", "b", "rest"] ["a", "b"] (defScope s_divisor) := ⟨rfl, rfl, rfl, by decide +kernel, rfl, by decide +kernel, by decide +kernel⟩
theorem sc_fraction : FnScope ["top", "bottom", "shared"] ["top", "bottom"] (defScope s_fraction) := ⟨rfl, rfl, rfl, by decide +kernel, rfl, by decide +kernel, by decide +kernel⟩
theorem sc_number_of : FnScope ["word", "parts", "top", "bottom"] ["word"] (defScope s_number_of) := ⟨rfl, rfl, rfl, by decide +kernel, rfl, by decide +kernel, by decide +kernel⟩
theorem sc_atom_at : FnScope ["words", "at", "word", "found", "a"] ["words", "at"] (defScope s_atom_at) := ⟨rfl, rfl, rfl, by decide +kernel, rfl, by decide +kernel, by decide +kernel⟩
theorem sc_power_at : FnScope ["words", "at", "found", "many"] ["words", "at"] (defScope s_power_at) := ⟨rfl, rfl, rfl, by decide +kernel, rfl, by decide +kernel, by decide +kernel⟩
theorem sc_product_at : FnScope ["words", "at", "found", "other"] ["words", "at"] (defScope s_product_at) := ⟨rfl, rfl, rfl, by decide +kernel, rfl, by decide +kernel, by decide +kernel⟩
theorem sc_sum_at : FnScope ["words", "at", "found", "name", "other"] ["words", "at"] (defScope s_sum_at) := ⟨rfl, rfl, rfl, by decide +kernel, rfl, by decide +kernel, by decide +kernel⟩
theorem sc_tree_of : FnScope ["words", "found"] ["words"] (defScope s_tree_of) := ⟨rfl, rfl, rfl, by decide +kernel, rfl, by decide +kernel, by decide +kernel⟩
theorem sc__law_refused : FnScope ["_law_words", "_law_heard", "e"] ["_law_words"] (defScope s__law_refused) := ⟨rfl, rfl, rfl, by decide +kernel, rfl, by decide +kernel, by decide +kernel⟩
theorem sc__law_whole : FnScope ["_law_found"] ["_law_found"] (defScope s__law_whole) := ⟨rfl, rfl, rfl, by decide +kernel, rfl, by decide +kernel, by decide +kernel⟩
theorem sc__law_alike : FnScope ["_law_found", "_law_due"] ["_law_found", "_law_due"] (defScope s__law_alike) := ⟨rfl, rfl, rfl, by decide +kernel, rfl, by decide +kernel, by decide +kernel⟩
theorem sc__law_edges : FnScope ["_law_cell", "_law_depth", "_law_words", "_law_many", "_law_tree", "_law_k"] ["_law_cell"] (defScope s__law_edges) := ⟨rfl, rfl, rfl, by decide +kernel, rfl, by decide +kernel, by decide +kernel⟩
theorem sc__law_atom : FnScope ["_law_cell", "_law_top", "_law_bottom", "_law_letters", "_law_name", "_law_k"] ["_law_cell"] (defScope s__law_atom) := ⟨rfl, rfl, rfl, by decide +kernel, rfl, by decide +kernel, by decide +kernel⟩
theorem sc__law_shut : FnScope ["_law_piece"] ["_law_piece"] (defScope s__law_shut) := ⟨rfl, rfl, rfl, by decide +kernel, rfl, by decide +kernel, by decide +kernel⟩
theorem sc__law_fits : FnScope ["_law_piece"] ["_law_piece"] (defScope s__law_fits) := ⟨rfl, rfl, rfl, by decide +kernel, rfl, by decide +kernel, by decide +kernel⟩
theorem sc__law_at_least : FnScope ["_law_piece", "_law_level"] ["_law_piece", "_law_level"] (defScope s__law_at_least) := ⟨rfl, rfl, rfl, by decide +kernel, rfl, by decide +kernel, by decide +kernel⟩
theorem sc__law_raised : FnScope ["_law_piece", "_law_many"] ["_law_piece", "_law_many"] (defScope s__law_raised) := ⟨rfl, rfl, rfl, by decide +kernel, rfl, by decide +kernel, by decide +kernel⟩
theorem sc__law_joined : FnScope ["_law_way", "_law_one", "_law_other", "_law_level", "_law_sign", "_law_tree"] ["_law_way", "_law_one", "_law_other"] (defScope s__law_joined) := ⟨rfl, rfl, rfl, by decide +kernel, rfl, by decide +kernel, by decide +kernel⟩
theorem sc__law_grown : FnScope ["_law_pieces", "_law_cell", "_law_grown_here"] ["_law_pieces", "_law_cell"] (defScope s__law_grown) := ⟨rfl, rfl, rfl, by decide +kernel, rfl, by decide +kernel, by decide +kernel⟩
theorem sc__law_cell_at : FnScope ["_law_script", "_law_k"] ["_law_script", "_law_k"] (defScope s__law_cell_at) := ⟨rfl, rfl, rfl, by decide +kernel, rfl, by decide +kernel, by decide +kernel⟩
theorem sc__law_no_atom : FnScope ["_law_cell", "_law_some"] ["_law_cell"] (defScope s__law_no_atom) := ⟨rfl, rfl, rfl, by decide +kernel, rfl, by decide +kernel, by decide +kernel⟩
theorem sc_law : FnScope ["_law_script", "_law_pieces", "_law_cell", "_law_piece", "_law_other", "_law_grown_here", "_law_words", "_law_handed", "_law_at", "_law_many", "_law_signs", "_law_atoms", "_law_k"] ["_law_script"] (defScope s_law) := ⟨rfl, rfl, rfl, by decide +kernel, rfl, by decide +kernel, by decide +kernel⟩
def kd_POWERS : List (Str × D) := [("2", .int 2), ("3", .int 3), ("4", .int 4), ("5", .int 5), ("6", .int 6)]
def k_DEEPEST : D := .int 16
def k_FIGURES : D := .str "0123456789"
def k_KEPT : D := .tup (ks_KEPT.map D.str)
def k_LETTERS : D := .str "abcdefghijklmnopqrstuvwxyz"
def k_LONGEST : D := .int 120
def sub_BoxError : Str → Option Bool := fun y => if y = "NoNumber" then some true else if y = "NoRow" then some true else none
def is_NoRow : Str → Option Bool := fun y => if y = "NoNumber" then some false else if y = "NoRow" then some true else none
def caF (a_BoxError a_NoNumber a_NoRow : Addr) : Str → Addr := fun y => if y = "BoxError" then a_BoxError else if y = "NoNumber" then a_NoNumber else if y = "NoRow" then a_NoRow else 0
def m_look_at_brackets : MS := (sSeq (sAsg (eZ (zC (.int 0))) (gN 1))
    (sFor (iL (eVar 0)) (gN 2) (sSeq (sIf (tZ (z2 gEq (zVar 2) (zC (.str "(")))) (sAsg (eZ (z2 gAdd (zVar 1) (zC (.int 1)))) (gN 1)) sNil)
    (sSeq (sIf (tZ (z2 gEq (zVar 2) (zC (.str ")")))) (sAsg (eZ (z2 gSub (zVar 1) (zC (.int 1)))) (gN 1)) sNil)
    (sIf (tOr (tZ (z2 gLt (zVar 1) (zC (.int 0)))) (tZ (z2 gGt (zVar 1) (zC k_DEEPEST)))) (sRaise "NoRow") sNil)))))
def f_look_at_brackets : List D → CR := callF 1 3 m_look_at_brackets
def m_word_at : MS := (sSeq (sIf (tZ (z2 gLt (zVar 1) (zC' gLen (zaCons (zVar 0) zaNil)))) (sRet (eZ (z2 gIx (zVar 0) (zVar 1)))) sNil)
    (sRet (eZ (zC (.str "")))))
def f_word_at : List D → CR := callF 2 2 m_word_at
def m_is_name : MS := (sSeq (sIf (tOr (tZ (z2 gEq (zVar 0) (zC (.str "")))) (tOr (tZ (z2 gGt (zC' gLen (zaCons (zVar 0) zaNil)) (zC (.int 8)))) (tZ (z2 (gIn false) (zVar 0) (zC k_KEPT))))) (sRet (eZ (zC (.bl false)))) sNil)
    (sSeq (sFor (iS (eVar 0)) (gN 1) (sIf (tZ (z2 (gInS true) (zVar 1) (zC k_LETTERS))) (sRet (eZ (zC (.bl false)))) sNil))
    (sRet (eZ (zC (.bl true))))))
def f_is_name : List D → CR := callF 1 2 m_is_name
def m_whole_of : MS := (sSeq (sIf (tOr (tZ (z2 gEq (zVar 0) (zC (.str "")))) (tZ (z2 gGt (zC' gLen (zaCons (zVar 0) zaNil)) (zC (.int 9))))) (sRaise "NoRow") sNil)
    (sSeq (sFor (iS (eVar 0)) (gN 1) (sIf (tZ (z2 (gInS true) (zVar 1) (zC k_FIGURES))) (sRaise "NoRow") sNil))
    (sSeq (sIf (tAnd (tZ (z2 gEq (z2 gIx (zVar 0) (zC (.int 0))) (zC (.str "0")))) (tZ (z2 gGt (zC' gLen (zaCons (zVar 0) zaNil)) (zC (.int 1))))) (sRaise "NoRow") sNil)
    (sRet (eC gIntS (aCons (eVar 0) aNil))))))
def f_whole_of : List D → CR := callF 1 2 m_whole_of
def fuel_divisor1 : Bn.Env → Nat := fun _ => Bn.fuelN
def m_divisor : MS := (sSeq (sAsg (eZ (zC' gAbs (zaCons (zVar 0) zaNil))) (gN 0))
    (sSeq (sAsg (eZ (zC' gAbs (zaCons (zVar 1) zaNil))) (gN 1))
    (sSeq (sWhile fuel_divisor1 (tZ (z2 gGt (zVar 1) (zC (.int 0)))) (sSeq (sAsg (eZ (z2 gMod (zVar 0) (zVar 1))) (gN 2))
    (sSeq (sAsg (eVar 1) (gN 0))
    (sAsg (eVar 2) (gN 1)))))
    (sRet (eMv 0)))))
def f_divisor : List D → CR := callF 2 3 m_divisor
def m_fraction : MS := (sSeq (sIf (tZ (z2 gEq (zVar 1) (zC (.int 0)))) (sRaise "NoNumber") sNil)
    (sSeq (sIf (tZ (z2 gLt (zVar 1) (zC (.int 0)))) (sSeq (sAsg (eZ (z1 gNeg (zVar 0))) (gN 0))
    (sAsg (eZ (z1 gNeg (zVar 1))) (gN 1))) sNil)
    (sSeq (sAsg (eCall f_divisor (aCons (eVar 0) (aCons (eVar 1) aNil))) (gN 2))
    (sRet (eTup (aCons (eZ (z2 gDiv (zVar 0) (zVar 2))) (aCons (eZ (z2 gDiv (zVar 1) (zVar 2))) aNil)))))))
def f_fraction : List D → CR := callF 2 3 m_fraction
def m_number_of : MS := (sSeq (sAsg (eSplit (eVar 0) (eZ (zC (.str "/")))) (gN 1))
    (sSeq (sIf (tZ (z2 gGt (zC' gLen (zaCons (zVar 1) zaNil)) (zC (.int 2)))) (sRaise "NoRow") sNil)
    (sSeq (sIf (tE (e2 gEq (eSlice cutSd (eZ (z2 gIx (zVar 1) (zC (.int 0)))) pNone (pSome (eZ (zC (.int 1))))) (eZ (zC (.str "-"))))) (sSeq (sAsg (e1 gNeg (eCall f_whole_of (aCons (eSlice cutSd (eZ (z2 gIx (zVar 1) (zC (.int 0)))) (pSome (eZ (zC (.int 1)))) pNone) aNil))) (gN 2))
    (sIf (tZ (z2 gEq (zVar 2) (zC (.int 0)))) (sRaise "NoRow") sNil)) (sAsg (eCall f_whole_of (aCons (eZ (z2 gIx (zVar 1) (zC (.int 0)))) aNil)) (gN 2)))
    (sSeq (sIf (tZ (z2 gEq (zC' gLen (zaCons (zVar 1) zaNil)) (zC (.int 1)))) (sRet (eTup (aCons (eVar 2) (aCons (eZ (zC (.int 1))) aNil)))) sNil)
    (sSeq (sAsg (eCall f_whole_of (aCons (eZ (z2 gIx (zVar 1) (zC (.int 1)))) aNil)) (gN 3))
    (sSeq (sIf (tOr (tZ (z2 gLt (zVar 3) (zC (.int 2)))) (tE (e2 gNe (eCall f_fraction (aCons (eVar 2) (aCons (eVar 3) aNil))) (eTup (aCons (eVar 2) (aCons (eVar 3) aNil)))))) (sRaise "NoRow") sNil)
    (sRet (eTup (aCons (eVar 2) (aCons (eVar 3) aNil))))))))))
def f_number_of : List D → CR := callF 1 4 m_number_of
def m_atom_at (f_sum_at : List D → CR) : MS := (sSeq (sAsg (eCall f_word_at (aCons (eVar 0) (aCons (eVar 1) aNil))) (gN 2))
    (sSeq (sIf (tZ (z2 gEq (zVar 2) (zC (.str "(")))) (sSeq (sAsg (eCall f_sum_at (aCons (eVar 0) (aCons (eZ (z2 gAdd (zVar 1) (zC (.int 1)))) aNil))) (gN 3))
    (sSeq (sIf (tE (e2 gNe (eCall f_word_at (aCons (eVar 0) (aCons (eZ (z2 gIx (zVar 3) (zC (.int 1)))) aNil))) (eZ (zC (.str ")"))))) (sRaise "NoRow") sNil)
    (sRet (eTup (aCons (eZ (z2 gIx (zVar 3) (zC (.int 0)))) (aCons (eZ (z2 gAdd (z2 gIx (zVar 3) (zC (.int 1))) (zC (.int 1)))) aNil)))))) sNil)
    (sSeq (sIf (tE (eCall f_is_name (aCons (eVar 2) aNil))) (sRet (eTup (aCons (eTup (aCons (eZ (zC (.str "name"))) (aCons (eVar 2) aNil))) (aCons (eZ (z2 gAdd (zVar 1) (zC (.int 1)))) aNil)))) sNil)
    (sSeq (sAsg (eCall f_number_of (aCons (eVar 2) aNil)) (gN 4))
    (sRet (eTup (aCons (eTup (aCons (eZ (zC (.str "number"))) (aCons (eZ (z2 gIx (zVar 4) (zC (.int 0)))) (aCons (eZ (z2 gIx (zVar 4) (zC (.int 1)))) aNil)))) (aCons (eZ (z2 gAdd (zVar 1) (zC (.int 1)))) aNil))))))))
def m_power_at (f_atom_at : List D → CR) : MS := (sSeq (sAsg (eCall f_atom_at (aCons (eVar 0) (aCons (eVar 1) aNil))) (gN 2))
    (sSeq (sIf (tE (e2 gNe (eCall f_word_at (aCons (eVar 0) (aCons (eZ (z2 gIx (zVar 2) (zC (.int 1)))) aNil))) (eZ (zC (.str "^"))))) (sRet (eMv 2)) sNil)
    (sSeq (sAsg (eCall f_word_at (aCons (eVar 0) (aCons (eZ (z2 gAdd (z2 gIx (zVar 2) (zC (.int 1))) (zC (.int 1)))) aNil))) (gN 3))
    (sSeq (sIf (tE (eKdIn true kd_POWERS (eVar 3))) (sRaise "NoRow") sNil)
    (sRet (eTup (aCons (eTup (aCons (eZ (zC (.str "power"))) (aCons (eZ (z2 gIx (zVar 2) (zC (.int 0)))) (aCons (eKdIx kd_POWERS (eVar 3)) aNil)))) (aCons (eZ (z2 gAdd (z2 gIx (zVar 2) (zC (.int 1))) (zC (.int 2)))) aNil))))))))
def fuel_product_at1 : Bn.Env → Nat := fun _ => Bn.fuelN
def m_product_at (f_power_at : List D → CR) : MS := (sSeq (sAsg (eCall f_power_at (aCons (eVar 0) (aCons (eVar 1) aNil))) (gN 2))
    (sSeq (sWhile fuel_product_at1 (tE (e2 gEq (eCall f_word_at (aCons (eVar 0) (aCons (eZ (z2 gIx (zVar 2) (zC (.int 1)))) aNil))) (eZ (zC (.str "*"))))) (sSeq (sAsg (eCall f_power_at (aCons (eVar 0) (aCons (eZ (z2 gAdd (z2 gIx (zVar 2) (zC (.int 1))) (zC (.int 1)))) aNil))) (gN 3))
    (sAsg (eTup (aCons (eTup (aCons (eZ (zC (.str "times"))) (aCons (eZ (z2 gIx (zVar 2) (zC (.int 0)))) (aCons (eZ (z2 gIx (zVar 3) (zC (.int 0)))) aNil)))) (aCons (eZ (z2 gIx (zVar 3) (zC (.int 1)))) aNil))) (gN 2))))
    (sRet (eMv 2))))
def fuel_sum_at1 : Bn.Env → Nat := fun _ => Bn.fuelN
def m_sum_at (f_product_at : List D → CR) : MS := (sSeq (sAsg (eCall f_product_at (aCons (eVar 0) (aCons (eVar 1) aNil))) (gN 2))
    (sSeq (sWhile fuel_sum_at1 (tE (e2 (gIn false) (eCall f_word_at (aCons (eVar 0) (aCons (eZ (z2 gIx (zVar 2) (zC (.int 1)))) aNil))) (eTup (aCons (eZ (zC (.str "+"))) (aCons (eZ (zC (.str "-"))) aNil))))) (sSeq (sAsg (eZ (zC (.str "plus"))) (gN 3))
    (sSeq (sIf (tZ (z2 gEq (z2 gIx (zVar 0) (z2 gIx (zVar 2) (zC (.int 1)))) (zC (.str "-")))) (sAsg (eZ (zC (.str "minus"))) (gN 3)) sNil)
    (sSeq (sAsg (eCall f_product_at (aCons (eVar 0) (aCons (eZ (z2 gAdd (z2 gIx (zVar 2) (zC (.int 1))) (zC (.int 1)))) aNil))) (gN 4))
    (sAsg (eTup (aCons (eTup (aCons (eVar 3) (aCons (eZ (z2 gIx (zVar 2) (zC (.int 0)))) (aCons (eZ (z2 gIx (zVar 4) (zC (.int 0)))) aNil)))) (aCons (eZ (z2 gIx (zVar 4) (zC (.int 1)))) aNil))) (gN 2))))))
    (sRet (eMv 2))))
mutual
def fr_atom_at : Nat → List D → CR
  | 0 => fun _ => .bad
  | n + 1 => callF 2 5 (m_atom_at (fr_sum_at n))
def fr_power_at : Nat → List D → CR
  | 0 => fun _ => .bad
  | n + 1 => callF 2 4 (m_power_at (fr_atom_at n))
def fr_product_at : Nat → List D → CR
  | 0 => fun _ => .bad
  | n + 1 => callF 2 4 (m_product_at (fr_power_at n))
def fr_sum_at : Nat → List D → CR
  | 0 => fun _ => .bad
  | n + 1 => callF 2 5 (m_sum_at (fr_product_at n))
end
def f_atom_at : List D → CR := fr_atom_at 68
def f_power_at : List D → CR := fr_power_at 68
def f_product_at : List D → CR := fr_product_at 68
def f_sum_at : List D → CR := fr_sum_at 68
def m_tree_of : MS := (sSeq (sIf (tZ (z2 gGt (zC' gLen (zaCons (zVar 0) zaNil)) (zC k_LONGEST))) (sRaise "NoRow") sNil)
    (sSeq (sDrop (eCall f_look_at_brackets (aCons (eVar 0) aNil)))
    (sSeq (sAsg (eCall f_sum_at (aCons (eVar 0) (aCons (eZ (zC (.int 0))) aNil))) (gN 1))
    (sSeq (sIf (tZ (z2 gNe (z2 gIx (zVar 1) (zC (.int 1))) (zC' gLen (zaCons (zVar 0) zaNil)))) (sRaise "NoRow") sNil)
    (sRet (eZ (z2 gIx (zVar 1) (zC (.int 0)))))))))
def f_tree_of : List D → CR := callF 1 2 m_tree_of
def m__law_refused : MS := (sSeq (sAsg (eZ (zC (.bl false))) (gN 1))
    (sSeq (sTryAs 2 sub_BoxError (sDrop (eCall f_tree_of (aCons (eVar 0) aNil))) (fun y => (sAsg (eIs (is_NoRow y)) (gN 1))))
    (sRet (eMv 1))))
def f__law_refused : List D → CR := callF 1 3 m__law_refused
def m__law_whole : MS := (sRet (eAnd (eZ (zC' gIsi (zaCons (zVar 0) (zaCons (zC (.ty "int")) zaNil)))) (eNot (eZ (zC' gIsi (zaCons (zVar 0) (zaCons (zC (.ty "bool")) zaNil)))))))
def f__law_whole : List D → CR := callF 1 1 m__law_whole
def m__law_alike (f__law_alike : List D → CR) : MS := (sSeq (sIf (tOr (tNot (tZ (zC' gIsi (zaCons (zVar 0) (zaCons (zC (.ty "tuple")) zaNil))))) (tOr (tZ (z2 gNe (zC' gLen (zaCons (zVar 0) zaNil)) (zC' gLen (zaCons (zVar 1) zaNil)))) (tZ (z2 gNe (z2 gIx (zVar 0) (zC (.int 0))) (z2 gIx (zVar 1) (zC (.int 0))))))) (sRet (eZ (zC (.bl false)))) sNil)
    (sSeq (sIf (tZ (z2 gEq (z2 gIx (zVar 1) (zC (.int 0))) (zC (.str "name")))) (sRet (eAnd (eZ (zC' gIsi (zaCons (z2 gIx (zVar 0) (zC (.int 1))) (zaCons (zC (.ty "str")) zaNil)))) (eZ (z2 gEq (z2 gIx (zVar 0) (zC (.int 1))) (z2 gIx (zVar 1) (zC (.int 1))))))) sNil)
    (sSeq (sIf (tZ (z2 gEq (z2 gIx (zVar 1) (zC (.int 0))) (zC (.str "number")))) (sRet (eAnd (eCall f__law_whole (aCons (eZ (z2 gIx (zVar 0) (zC (.int 1)))) aNil)) (eAnd (eCall f__law_whole (aCons (eZ (z2 gIx (zVar 0) (zC (.int 2)))) aNil)) (eZ (z2 gEq (zVar 0) (zVar 1)))))) sNil)
    (sSeq (sIf (tZ (z2 gEq (z2 gIx (zVar 1) (zC (.int 0))) (zC (.str "power")))) (sRet (eAnd (eCall f__law_whole (aCons (eZ (z2 gIx (zVar 0) (zC (.int 2)))) aNil)) (eAnd (eZ (z2 gEq (z2 gIx (zVar 0) (zC (.int 2))) (z2 gIx (zVar 1) (zC (.int 2))))) (eCall f__law_alike (aCons (eZ (z2 gIx (zVar 0) (zC (.int 1)))) (aCons (eZ (z2 gIx (zVar 1) (zC (.int 1)))) aNil)))))) sNil)
    (sRet (eAnd (eCall f__law_alike (aCons (eZ (z2 gIx (zVar 0) (zC (.int 1)))) (aCons (eZ (z2 gIx (zVar 1) (zC (.int 1)))) aNil))) (eCall f__law_alike (aCons (eZ (z2 gIx (zVar 0) (zC (.int 2)))) (aCons (eZ (z2 gIx (zVar 1) (zC (.int 2)))) aNil)))))))))
def fr__law_alike : Nat → List D → CR
  | 0 => fun _ => .bad
  | n + 1 => callF 2 2 (m__law_alike (fr__law_alike n))
def f__law_alike : List D → CR := fr__law_alike 70
def m__law_edges : MS := (sSeq (sAsg (eZ (z2 gAdd (zC (.int 14)) (z2 gMod (zVar 0) (zC (.int 5))))) (gN 1))
    (sSeq (sAsg (eCat (eCat (eRep (eLst (aCons (eZ (zC (.str "("))) aNil)) (eVar 1)) (eLst (aCons (eZ (zC (.str "z"))) aNil))) (eRep (eLst (aCons (eZ (zC (.str ")"))) aNil)) (eVar 1))) (gN 2))
    (sSeq (sIf (tZ (z2 gLt (zVar 1) (zC (.int 17)))) (sIf (tNot (tE (eCall f__law_alike (aCons (eCall f_tree_of (aCons (eVar 2) aNil)) (aCons (eTup (aCons (eZ (zC (.str "name"))) (aCons (eZ (zC (.str "z"))) aNil))) aNil))))) (sRet (eZ (zC (.bl false)))) sNil) (sIf (tNot (tE (eCall f__law_refused (aCons (eVar 2) aNil)))) (sRet (eZ (zC (.bl false)))) sNil))
    (sSeq (sAsg (eZ (z2 gAdd (zC (.int 58)) (z2 gMod (z2 gDiv (zVar 0) (zC (.int 5))) (zC (.int 5))))) (gN 3))
    (sSeq (sAsg (eTup (aCons (eZ (zC (.str "name"))) (aCons (eZ (zC (.str "q"))) aNil))) (gN 4))
    (sSeq (sFor (iR1 (aCons (eZ (z2 gSub (zVar 3) (zC (.int 1)))) aNil)) (gN 5) (sAsg (eTup (aCons (eZ (zC (.str "plus"))) (aCons (eVar 4) (aCons (eTup (aCons (eZ (zC (.str "name"))) (aCons (eZ (zC (.str "q"))) aNil))) aNil)))) (gN 4)))
    (sSeq (sAsg (eCat (eLst (aCons (eZ (zC (.str "q"))) aNil)) (eRep (eLst (aCons (eZ (zC (.str "+"))) (aCons (eZ (zC (.str "q"))) aNil))) (eZ (z2 gSub (zVar 3) (zC (.int 1)))))) (gN 2))
    (sSeq (sIf (tZ (z2 gLt (zVar 3) (zC (.int 61)))) (sRet (eCall f__law_alike (aCons (eCall f_tree_of (aCons (eVar 2) aNil)) (aCons (eVar 4) aNil)))) sNil)
    (sRet (eCall f__law_refused (aCons (eVar 2) aNil)))))))))))
def f__law_edges : List D → CR := callF 1 6 m__law_edges
def m__law_atom : MS := (sSeq (sIf (tZ (z2 gEq (z2 gMod (zVar 0) (zC (.int 3))) (zC (.int 0)))) (sSeq (sAsg (eZ (z2 gSub (z2 gMod (z2 gDiv (zVar 0) (zC (.int 3))) (z2 gSub (z2 gMulA (zC (.int 2)) (z2 gPow (zC (.int 10)) (zC (.int 9)))) (zC (.int 1)))) (z2 gSub (z2 gPow (zC (.int 10)) (zC (.int 9))) (zC (.int 1))))) (gN 1))
    (sRet (eTup (aCons (eTup (aCons (eZ (zC (.str "number"))) (aCons (eVar 1) (aCons (eZ (zC (.int 1))) aNil)))) (aCons (eLst (aCons (eC gStrI (aCons (eVar 1) aNil)) aNil)) (aCons (eZ (zC (.int 3))) (aCons (eZ (zC (.int 0))) aNil))))))) sNil)
    (sSeq (sIf (tZ (z2 gEq (z2 gMod (zVar 0) (zC (.int 3))) (zC (.int 1)))) (sSeq (sAsg (eZ (z2 gAdd (zC (.int 2)) (z2 gMod (z2 gDiv (zVar 0) (zC (.int 3))) (zC (.int 997))))) (gN 2))
    (sSeq (sAsg (eZ (z2 gAdd (z2 gMulA (zVar 2) (z2 gSub (z2 gMod (z2 gDiv (zVar 0) (zC (.int 7))) (zC (.int 2001))) (zC (.int 1000)))) (zC (.int 1)))) (gN 1))
    (sRet (eTup (aCons (eTup (aCons (eZ (zC (.str "number"))) (aCons (eVar 1) (aCons (eVar 2) aNil)))) (aCons (eLst (aCons (e2 gAddS (e2 gAddS (eC gStrI (aCons (eVar 1) aNil)) (eZ (zC (.str "/")))) (eC gStrI (aCons (eVar 2) aNil))) aNil)) (aCons (eZ (zC (.int 3))) (aCons (eZ (zC (.int 0))) aNil)))))))) sNil)
    (sSeq (sAsg (eZ (zC (.str "abmxyz"))) (gN 3))
    (sSeq (sAsg (eJoin (eZ (zC (.str ""))) (eLc [5] (iR1 (aCons (eZ (z2 gAdd (zC (.int 1)) (z2 gMod (z2 gDiv (zVar 0) (zC (.int 3))) (zC (.int 8))))) aNil)) (gN 5) tTrue (eZ (z2 gIx (zVar 3) (z2 gMod (z2 gAdd (z2 gDiv (zVar 0) (zC (.int 3))) (z2 gMulA (z2 gMod (z2 gDiv (zVar 0) (zC (.int 5))) (zC (.int 7))) (zVar 5))) (zC (.int 6))))))) (gN 4))
    (sRet (eTup (aCons (eTup (aCons (eZ (zC (.str "name"))) (aCons (eVar 4) aNil))) (aCons (eLst (aCons (eVar 4) aNil)) (aCons (eZ (zC (.int 3))) (aCons (eZ (zC (.int 0))) aNil))))))))))
def f__law_atom : List D → CR := callF 1 6 m__law_atom
def m__law_shut : MS := (sRet (eTup (aCons (eZ (z2 gIx (zVar 0) (zC (.int 0)))) (aCons (eCat (eCat (eLst (aCons (eZ (zC (.str "("))) aNil)) (eZ (z2 gIx (zVar 0) (zC (.int 1))))) (eLst (aCons (eZ (zC (.str ")"))) aNil))) (aCons (eZ (zC (.int 3))) (aCons (eZ (z2 gAdd (z2 gIx (zVar 0) (zC (.int 3))) (zC (.int 1)))) aNil))))))
def f__law_shut : List D → CR := callF 1 1 m__law_shut
def m__law_fits : MS := (sRet (eAnd (eZ (z2 gLt (zC' gLen (zaCons (z2 gIx (zVar 0) (zC (.int 1))) zaNil)) (zC (.int 120)))) (eZ (z2 gLt (z2 gIx (zVar 0) (zC (.int 3))) (zC (.int 17))))))
def f__law_fits : List D → CR := callF 1 1 m__law_fits
def m__law_at_least : MS := (sSeq (sIf (tZ (z2 gLt (z2 gIx (zVar 0) (zC (.int 2))) (zVar 1))) (sRet (eCall f__law_shut (aCons (eVar 0) aNil))) sNil)
    (sRet (eMv 0)))
def f__law_at_least : List D → CR := callF 2 2 m__law_at_least
def m__law_raised : MS := (sSeq (sAsg (eCall f__law_at_least (aCons (eVar 0) (aCons (eZ (zC (.int 3))) aNil))) (gN 0))
    (sRet (eTup (aCons (eTup (aCons (eZ (zC (.str "power"))) (aCons (eZ (z2 gIx (zVar 0) (zC (.int 0)))) (aCons (eVar 1) aNil)))) (aCons (eCat (eZ (z2 gIx (zVar 0) (zC (.int 1)))) (eLst (aCons (eZ (zC (.str "^"))) (aCons (eC gStrI (aCons (eVar 1) aNil)) aNil)))) (aCons (eZ (zC (.int 2))) (aCons (eZ (z2 gIx (zVar 0) (zC (.int 3)))) aNil)))))))
def f__law_raised : List D → CR := callF 2 2 m__law_raised
def m__law_joined : MS := (sSeq (sAsg (eC gInt (aCons (eZ (z2 gEq (zVar 0) (zC (.int 2)))) aNil)) (gN 3))
    (sSeq (sAsg (eCall f__law_at_least (aCons (eVar 1) (aCons (eVar 3) aNil))) (gN 1))
    (sSeq (sAsg (eCall f__law_at_least (aCons (eVar 2) (aCons (eZ (z2 gAdd (zVar 3) (zC (.int 1)))) aNil))) (gN 2))
    (sSeq (sAsg (e2 gIx (eLst (aCons (eZ (zC (.str "+"))) (aCons (eZ (zC (.str "-"))) (aCons (eZ (zC (.str "*"))) aNil)))) (eVar 0)) (gN 4))
    (sSeq (sAsg (eTup (aCons (e2 gIx (eLst (aCons (eZ (zC (.str "plus"))) (aCons (eZ (zC (.str "minus"))) (aCons (eZ (zC (.str "times"))) aNil)))) (eVar 0)) (aCons (eZ (z2 gIx (zVar 1) (zC (.int 0)))) (aCons (eZ (z2 gIx (zVar 2) (zC (.int 0)))) aNil)))) (gN 5))
    (sRet (eTup (aCons (eVar 5) (aCons (eCat (eCat (eZ (z2 gIx (zVar 1) (zC (.int 1)))) (eLst (aCons (eVar 4) aNil))) (eZ (z2 gIx (zVar 2) (zC (.int 1))))) (aCons (eVar 3) (aCons (eZ (zC' gMax2 (zaCons (z2 gIx (zVar 1) (zC (.int 3))) (zaCons (z2 gIx (zVar 2) (zC (.int 3))) zaNil)))) aNil)))))))))))
def f__law_joined : List D → CR := callF 3 6 m__law_joined
def m__law_grown : MS := (sSeq (sIf (tZ (z2 gLt (z2 gMod (zVar 1) (zC (.int 8))) (zC (.int 3)))) (sRet (eCat (eVar 0) (eLst (aCons (eCall f__law_atom (aCons (eZ (z2 gDiv (zVar 1) (zC (.int 8)))) aNil)) aNil)))) sNil)
    (sSeq (sIf (tZ (z2 gEq (z2 gMod (zVar 1) (zC (.int 8))) (zC (.int 3)))) (sAsg (eCall f__law_shut (aCons (eZ (z2 gIx (zVar 0) (z1 gNeg (zC (.int 1))))) aNil)) (gN 2)) (sIf (tZ (z2 gEq (z2 gMod (zVar 1) (zC (.int 8))) (zC (.int 4)))) (sAsg (eCall f__law_raised (aCons (eZ (z2 gIx (zVar 0) (z1 gNeg (zC (.int 1))))) (aCons (eZ (z2 gAdd (zC (.int 2)) (z2 gMod (z2 gDiv (zVar 1) (zC (.int 8))) (zC (.int 5))))) aNil))) (gN 2)) (sIf (tZ (z2 gLt (zC' gLen (zaCons (zVar 0) zaNil)) (zC (.int 2)))) (sRet (eCat (eVar 0) (eLst (aCons (eCall f__law_atom (aCons (eZ (z2 gDiv (zVar 1) (zC (.int 8)))) aNil)) aNil)))) (sSeq (sAsg (eCall f__law_joined (aCons (eZ (z2 gSub (z2 gMod (zVar 1) (zC (.int 8))) (zC (.int 5)))) (aCons (eZ (z2 gIx (zVar 0) (z1 gNeg (zC (.int 2))))) (aCons (eZ (z2 gIx (zVar 0) (z1 gNeg (zC (.int 1))))) aNil)))) (gN 2))
    (sAsg (eSlice cutLd (eVar 0) pNone (pSome (eZ (z1 gNeg (zC (.int 1)))))) (gN 0))))))
    (sSeq (sIf (tNot (tE (eCall f__law_fits (aCons (eVar 2) aNil)))) (sRet (eMv 0)) sNil)
    (sRet (eCat (eSlice cutLd (eVar 0) pNone (pSome (eZ (z1 gNeg (zC (.int 1)))))) (eLst (aCons (eVar 2) aNil)))))))
def f__law_grown : List D → CR := callF 2 3 m__law_grown
def m__law_cell_at : MS := (sSeq (sIf (tZ (z2 gLt (zVar 1) (zC' gLen (zaCons (zVar 0) zaNil)))) (sRet (eZ (z2 gIx (zVar 0) (zVar 1)))) sNil)
    (sRet (eZ (zC (.int 0)))))
def f__law_cell_at : List D → CR := callF 2 2 m__law_cell_at
def m__law_no_atom : MS := (sSeq (sAsg (eLst (aCons (eZ (zC (.str "grid"))) (aCons (eZ (zC (.str "let"))) (aCons (eZ (zC (.str "in"))) (aCons (eZ (zC (.str "islands"))) (aCons (eZ (zC (.str "abcdefghi"))) (aCons (eZ (zC (.str "1234567890"))) (aCons (eZ (zC (.str "2/4"))) (aCons (eZ (zC (.str "-0"))) (aCons (eZ (zC (.str "007"))) (aCons (eZ (zC (.str "1/1"))) (aCons (eZ (zC (.str "1/1234567890"))) aNil)))))))))))) (gN 1))
    (sSeq (sAsg (eCat (eVar 1) (eLst (aCons (eZ (zC (.str "x2"))) (aCons (eZ (zC (.str "X"))) (aCons (eZ (zC (.str ""))) (aCons (eZ (zC (.str "0/3"))) (aCons (eZ (zC (.str "--1"))) aNil))))))) (gN 1))
    (sRet (eZ (z2 gIx (zVar 1) (z2 gMod (zVar 0) (zC (.int 16))))))))
def f__law_no_atom : List D → CR := callF 1 2 m__law_no_atom
def m_law : MS := (sSeq (sAsg (eLst (aCons (eCall f__law_atom (aCons (e2 gMod (eCall f__law_cell_at (aCons (eVar 0) (aCons (eZ (zC (.int 0))) aNil))) (eZ (z2 gPow (zC (.int 10)) (zC (.int 12))))) aNil)) aNil)) (gN 1))
    (sSeq (sFor (iL (eSlice cutLd (eVar 0) (pSome (eZ (zC (.int 3)))) (pSome (eZ (zC (.int 45)))))) (gN 2) (sAsg (eCall f__law_grown (aCons (eVar 1) (aCons (eZ (z2 gMod (zVar 2) (z2 gPow (zC (.int 10)) (zC (.int 13))))) aNil))) (gN 1)))
    (sSeq (sAsg (eZ (z2 gIx (zVar 1) (zC (.int 0)))) (gN 3))
    (sSeq (sFor (iL (eSlice cutLd (eVar 1) (pSome (eZ (zC (.int 1)))) pNone)) (gN 4) (sSeq (sAsg (eCall f__law_joined (aCons (eZ (zC (.int 0))) (aCons (eVar 3) (aCons (eVar 4) aNil)))) (gN 5))
    (sIf (tE (eCall f__law_fits (aCons (eVar 5) aNil))) (sAsg (eVar 5) (gN 3)) sNil)))
    (sSeq (sAsg (eZ (z2 gIx (zVar 3) (zC (.int 1)))) (gN 6))
    (sSeq (sAsg (eLstOf (aCons (eVar 6) aNil)) (gN 7))
    (sSeq (sIf (tOr (tNot (tE (eCall f__law_alike (aCons (eCall f_tree_of (aCons (eVar 7) aNil)) (aCons (eZ (z2 gIx (zVar 3) (zC (.int 0)))) aNil))))) (tZ (z2 gNe (zVar 7) (zVar 6)))) (sRet (eZ (zC (.bl false)))) sNil)
    (sSeq (sAsg (e2 gMod (eCall f__law_cell_at (aCons (eVar 0) (aCons (eZ (zC (.int 1))) aNil))) (eZ (zC' gLen (zaCons (zVar 6) zaNil)))) (gN 8))
    (sSeq (sIf (tOr (tNot (tE (eCall f__law_refused (aCons (eCat (eSlice cutLd (eVar 6) pNone (pSome (eVar 8))) (eSlice cutLd (eVar 6) (pSome (eZ (z2 gAdd (zVar 8) (zC (.int 1))))) pNone)) aNil)))) (tNot (tE (eCall f__law_refused (aCons (eCat (eCat (eSlice cutLd (eVar 6) pNone (pSome (eVar 8))) (eSlice cutLd (eVar 6) (pSome (eVar 8)) (pSome (eZ (z2 gAdd (zVar 8) (zC (.int 1))))))) (eSlice cutLd (eVar 6) (pSome (eVar 8)) pNone)) aNil))))) (sRet (eZ (zC (.bl false)))) sNil)
    (sSeq (sIf (tZ (z2 gLt (zC' gLen (zaCons (zVar 6) zaNil)) (zC (.int 119)))) (sSeq (sAsg (e2 gIx (eLst (aCons (eZ (zC (.str "0"))) (aCons (eZ (zC (.str "1"))) (aCons (eZ (zC (.str "7"))) (aCons (eZ (zC (.str "-2"))) (aCons (eZ (zC (.str "02"))) (aCons (eZ (zC (.str "x"))) (aCons (eZ (zC (.str ""))) (aCons (eZ (zC (.str "2/3"))) (aCons (eZ (zC (.str "22"))) (aCons (eZ (zC (.str "("))) aNil))))))))))) (e2 gMod (eCall f__law_cell_at (aCons (eVar 0) (aCons (eZ (zC (.int 2))) aNil))) (eZ (zC (.int 10))))) (gN 9))
    (sIf (tNot (tE (eCall f__law_refused (aCons (eCat (eVar 6) (eLst (aCons (eZ (zC (.str "^"))) (aCons (eVar 9) aNil)))) aNil)))) (sRet (eZ (zC (.bl false)))) sNil)) sNil)
    (sSeq (sAsg (eTup (aCons (eZ (zC (.str "("))) (aCons (eZ (zC (.str ")"))) (aCons (eZ (zC (.str "+"))) (aCons (eZ (zC (.str "-"))) (aCons (eZ (zC (.str "*"))) (aCons (eZ (zC (.str "^"))) aNil))))))) (gN 10))
    (sSeq (sAsg (eLc [12] (iR1 (aCons (eZ (zC' gLen (zaCons (zVar 6) zaNil))) aNil)) (gN 12) (tAnd (tZ (z2 (gIn true) (z2 gIx (zVar 6) (zVar 12)) (zVar 10))) (tOr (tZ (z2 gEq (zVar 12) (zC (.int 0)))) (tZ (z2 gNe (z2 gIx (zVar 6) (z2 gSub (zVar 12) (zC (.int 1)))) (zC (.str "^")))))) (eVar 12)) (gN 11))
    (sSeq (sAsg (e2 gIx (eVar 11) (e2 gMod (e2 gDiv (eCall f__law_cell_at (aCons (eVar 0) (aCons (eZ (zC (.int 1))) aNil))) (eZ (zC (.int 7)))) (eZ (zC' gLen (zaCons (zVar 11) zaNil))))) (gN 8))
    (sSeq (sIf (tNot (tE (eCall f__law_refused (aCons (eCat (eCat (eSlice cutLd (eVar 6) pNone (pSome (eVar 8))) (eLst (aCons (eCall f__law_no_atom (aCons (e2 gDiv (eCall f__law_cell_at (aCons (eVar 0) (aCons (eZ (zC (.int 2))) aNil))) (eZ (zC (.int 250)))) aNil)) aNil))) (eSlice cutLd (eVar 6) (pSome (eZ (z2 gAdd (zVar 8) (zC (.int 1))))) pNone)) aNil)))) (sRet (eZ (zC (.bl false)))) sNil)
    (sRet (eCall f__law_edges (aCons (e2 gDiv (eCall f__law_cell_at (aCons (eVar 0) (aCons (eZ (zC (.int 2))) aNil))) (eZ (zC (.int 10)))) aNil)))))))))))))))))
def f_law : List D → CR := callF 1 13 m_law
end Lw
namespace Lw
open Bn PySem
@[irreducible] noncomputable def n__law_cell_at (script' : (List Int)) (k' : Int) : N Int := NS.f (σ := Unit) (κ := Unit) (
if (decide (k' < ((script').length : Int))) = true then
N.s (N.ix script' k') fun x2 => NS.rt x2
else
NS.rt 0)
theorem vf__law_cell_at : VF f__law_cell_at (fun (a : ((List Int) × Int)) => n__law_cell_at a.1 a.2) (eCons eCn (eOne eI)) eI := by
  rintro ⟨script', k'⟩ ds h
  show SatC _ (n__law_cell_at script' k') _
  unfold n__law_cell_at
  exact satC_of (L := fun (_ : Unit) => []) (G' := fun (_ : Unit) => [.any, .any]) (n := 2) (N := 2) (b := m__law_cell_at) rfl ((inil_cons inil_one) _ _ h) rfl ((vs_ifP (vt_z (vz_2 (v := N.ok (decide (k' < ((script').length : Int)))) vz_var (vz_call (v := N.ok ((script').length : Int)) (vza_one vz_var) c_lenC nx_p1 ) o_lt nx_p2)) (vs_stop (vs_ret (ve_z (vz_2 (v := (N.ix script' k')) vz_var vz_var o_ixC nx_ix) zf_I) (fun a => a) (fun a d τ h s => h))) (vs_doc (vs_retP (ve_z vz_i zf_I) (fun a => a) (fun a d τ h s => h)))))
@[irreducible] noncomputable def n__law_atom (cell' : Int) : N (D × (List Str) × Int × Int) := NS.f (σ := Unit) (κ := Unit) (
N.s (N.bind (N.mod cell' 3) fun x4 => N.ok (decide (x4 = 0))) fun b41 => if b41 = true then
N.s (N.bind (N.bind (N.div cell' 3) fun x5 => (N.mod x5 1999999999)) fun x6 => N.ok (x6 - 999999999)) fun top' =>
N.s (N.bind (N.bind (N.str top') fun x8 => N.ok [x8]) fun x9 => N.ok ((D.tup [(D.str ("number" : Str)), (D.int top'), (D.int 1)]), x9, 3, 0)) fun x12 => NS.rt x12
else
N.s (N.bind (N.mod cell' 3) fun x13 => N.ok (decide (x13 = 1))) fun b40 => if b40 = true then
N.s (N.bind (N.bind (N.div cell' 3) fun x14 => (N.mod x14 997)) fun x15 => N.ok (2 + x15)) fun bottom' =>
N.s (N.bind (N.bind (N.bind (N.bind (N.div cell' 7) fun x16 => (N.mod x16 2001)) fun x17 => N.ok (x17 - 1000)) fun x18 => (N.mul bottom' x18)) fun x19 => N.ok (x19 + 1)) fun top'1 =>
N.s (N.bind (N.bind (N.bind (N.bind (N.str top'1) fun x20 => (N.sadd x20 ("/" : Str))) fun x21 => N.bind (N.str bottom') fun x22 => (N.sadd x21 x22)) fun x24 => N.ok [x24]) fun x25 => N.ok ((D.tup [(D.str ("number" : Str)), (D.int top'1), (D.int bottom')]), x25, 3, 0)) fun x28 => NS.rt x28
else
N.s (N.ok ("abmxyz" : Str)) fun letters' =>
N.s (N.bind (N.bind (N.bind (N.bind (N.bind (N.div cell' 3) fun x29 => (N.mod x29 8)) fun x30 => N.ok (1 + x30)) fun x31 => (N.range x31)) fun x38 => lcN (fun (k' : Int) => (N.ok true)) (fun (k' : Int) => (N.bind (N.bind (N.bind (N.div cell' 3) fun x34 => N.bind (N.bind (N.bind (N.div cell' 5) fun x32 => (N.mod x32 7)) fun x33 => (N.mul x33 k')) fun x35 => N.ok (x34 + x35)) fun x36 => (N.mod x36 6)) fun x37 => (N.six letters' x37))) x38) fun x39 => (N.join ("" : Str) x39)) fun name' =>
NS.rt ((D.tup [(D.str ("name" : Str)), (D.str name')]), [name'], 3, 0))
theorem vf__law_atom : VF f__law_atom (fun (a : Int) => n__law_atom a) (eOne eI) (eTu (eCons eD (eCons (eLi false eS) (eCons eI (eOne eI))))) := by
  rintro cell' ds h
  show SatC _ (n__law_atom cell') _
  unfold n__law_atom
  exact satC_of (L := fun (_ : Unit) => []) (G' := fun (_ : Unit) => [.any, .any, .any, .any, .any, .any]) (n := 1) (N := 6) (b := m__law_atom) rfl (inil_one _ _ h) rfl ((vs_if (vt_z (vz_2 (v := (N.bind (N.mod cell' 3) fun x4 => N.ok (decide (x4 = 0)))) (vz_2 (v := (N.mod cell' 3)) vz_var vz_i o_mod nx_mod) vz_i o_eqI nx_p2)) (vs_stop (vs_asg (ve_z (vz_2 (v := (N.bind (N.bind (N.div cell' 3) fun x5 => (N.mod x5 1999999999)) fun x6 => N.ok (x6 - 999999999))) (vz_2 (v := (N.bind (N.div cell' 3) fun x5 => (N.mod x5 1999999999))) (vz_2 (v := (N.div cell' 3)) vz_var vz_i o_div nx_div) (vz_cst (c := 1999999999) (fun _ => by rfl)) o_mod nx_mod) (vz_cst (c := 999999999) (fun _ => by rfl)) o_sub nx_p2) zf_I) vg_n (fun top' => (vs_ret (ve_tup (va_cons (u := (N.bind (N.bind (N.str top') fun x8 => N.ok [x8]) fun x11 => N.ok ((D.tup [(D.str ("number" : Str)), (D.int top'), (D.int 1)]), x11, 3, 0))) (ve_imp (w := N.ok (D.tup [(D.str ("number" : Str)), (D.int top'), (D.int 1)])) (ve_tup (va_cons (u := N.ok (("number" : Str), top', 1)) (ve_z vz_s zf_S) (va_cons (u := N.ok (top', 1)) (ve_varF zf_I) (va_one (ve_z vz_i zf_I)))) (fzl_cons (fz_z zf_S) (fzl_cons (fz_z zf_I) (fzl_one (fz_z zf_I)))) (len_cons (len_cons len_one))) _ (to_D (fx_T (fxl_cons fx_S (fxl_cons fx_I (fxl_one fx_I)))) zf_T)) (va_cons (u := (N.bind (N.bind (N.str top') fun x8 => N.ok [x8]) fun x10 => N.ok (x10, 3, 0))) (ve_lst (vl_cons (u := (N.bind (N.str top') fun x7 => N.ok [x7])) (ve_c (v := (N.str top')) (va_one (ve_varF zf_I)) c_str zf_S nx_str ) vl_nil)) (va_cons (u := N.ok (3, 0)) (ve_z vz_i zf_I) (va_one (ve_z vz_i zf_I))))) (fzl_cons (fz_z zf_D) (fzl_cons (fz_L (fz_z zf_S)) (fzl_cons (fz_z zf_I) (fzl_one (fz_z zf_I))))) (len_cons (len_cons (len_cons len_one)))) (fun a => a) (fun a d τ h s => h))))) (vs_doc (vs_if (vt_z (vz_2 (v := (N.bind (N.mod cell' 3) fun x13 => N.ok (decide (x13 = 1)))) (vz_2 (v := (N.mod cell' 3)) vz_var vz_i o_mod nx_mod) vz_i o_eqI nx_p2)) (vs_stop (vs_asg (ve_z (vz_2 (v := (N.bind (N.bind (N.div cell' 3) fun x14 => (N.mod x14 997)) fun x15 => N.ok (2 + x15))) vz_i (vz_2 (v := (N.bind (N.div cell' 3) fun x14 => (N.mod x14 997))) (vz_2 (v := (N.div cell' 3)) vz_var vz_i o_div nx_div) vz_i o_mod nx_mod) o_add nx_p2) zf_I) vg_n (fun bottom' => (vs_asg (ve_z (vz_2 (v := (N.bind (N.bind (N.bind (N.bind (N.div cell' 7) fun x16 => (N.mod x16 2001)) fun x17 => N.ok (x17 - 1000)) fun x18 => (N.mul bottom' x18)) fun x19 => N.ok (x19 + 1))) (vz_2 (v := (N.bind (N.bind (N.bind (N.div cell' 7) fun x16 => (N.mod x16 2001)) fun x17 => N.ok (x17 - 1000)) fun x18 => (N.mul bottom' x18))) vz_var (vz_2 (v := (N.bind (N.bind (N.div cell' 7) fun x16 => (N.mod x16 2001)) fun x17 => N.ok (x17 - 1000))) (vz_2 (v := (N.bind (N.div cell' 7) fun x16 => (N.mod x16 2001))) (vz_2 (v := (N.div cell' 7)) vz_var vz_i o_div nx_div) vz_i o_mod nx_mod) vz_i o_sub nx_p2) o_mul nx_mul) vz_i o_add nx_p2) zf_I) vg_n (fun top'1 => (vs_ret (ve_tup (va_cons (u := (N.bind (N.bind (N.bind (N.bind (N.str top'1) fun x20 => (N.sadd x20 ("/" : Str))) fun x21 => N.bind (N.str bottom') fun x22 => (N.sadd x21 x22)) fun x24 => N.ok [x24]) fun x27 => N.ok ((D.tup [(D.str ("number" : Str)), (D.int top'1), (D.int bottom')]), x27, 3, 0))) (ve_imp (w := N.ok (D.tup [(D.str ("number" : Str)), (D.int top'1), (D.int bottom')])) (ve_tup (va_cons (u := N.ok (("number" : Str), top'1, bottom')) (ve_z vz_s zf_S) (va_cons (u := N.ok (top'1, bottom')) (ve_varF zf_I) (va_one (ve_varF zf_I)))) (fzl_cons (fz_z zf_S) (fzl_cons (fz_z zf_I) (fzl_one (fz_z zf_I)))) (len_cons (len_cons len_one))) _ (to_D (fx_T (fxl_cons fx_S (fxl_cons fx_I (fxl_one fx_I)))) zf_T)) (va_cons (u := (N.bind (N.bind (N.bind (N.bind (N.str top'1) fun x20 => (N.sadd x20 ("/" : Str))) fun x21 => N.bind (N.str bottom') fun x22 => (N.sadd x21 x22)) fun x24 => N.ok [x24]) fun x26 => N.ok (x26, 3, 0))) (ve_lst (vl_cons (u := (N.bind (N.bind (N.bind (N.str top'1) fun x20 => (N.sadd x20 ("/" : Str))) fun x21 => N.bind (N.str bottom') fun x22 => (N.sadd x21 x22)) fun x23 => N.ok [x23])) (ve_2 (v := (N.bind (N.bind (N.str top'1) fun x20 => (N.sadd x20 ("/" : Str))) fun x21 => N.bind (N.str bottom') fun x22 => (N.sadd x21 x22))) (ve_2 (v := (N.bind (N.str top'1) fun x20 => (N.sadd x20 ("/" : Str)))) (ve_c (v := (N.str top'1)) (va_one (ve_varF zf_I)) c_str zf_S nx_str ) (ve_z vz_s zf_S) o_sadd zf_S nx_sadd) (ve_c (v := (N.str bottom')) (va_one (ve_varF zf_I)) c_str zf_S nx_str ) o_sadd zf_S nx_sadd) vl_nil)) (va_cons (u := N.ok (3, 0)) (ve_z vz_i zf_I) (va_one (ve_z vz_i zf_I))))) (fzl_cons (fz_z zf_D) (fzl_cons (fz_L (fz_z zf_S)) (fzl_cons (fz_z zf_I) (fzl_one (fz_z zf_I))))) (len_cons (len_cons (len_cons len_one)))) (fun a => a) (fun a d τ h s => h))))))) (vs_doc (vs_asg (ve_z vz_s zf_S) vg_n (fun letters' => (vs_asg (ve_join (u := (N.bind (N.bind (N.bind (N.bind (N.bind (N.div cell' 3) fun x29 => (N.mod x29 8)) fun x30 => N.ok (1 + x30)) fun x31 => (N.range x31)) fun x38 => lcN (fun (k' : Int) => (N.ok true)) (fun (k' : Int) => (N.bind (N.bind (N.bind (N.div cell' 3) fun x34 => N.bind (N.bind (N.bind (N.div cell' 5) fun x32 => (N.mod x32 7)) fun x33 => (N.mul x33 k')) fun x35 => N.ok (x34 + x35)) fun x36 => (N.mod x36 6)) fun x37 => (N.six letters' x37))) x38) fun x39 => (N.join ("" : Str) x39))) (ve_z vz_s zf_S) (ve_lc (w := (N.bind (N.bind (N.bind (N.bind (N.div cell' 3) fun x29 => (N.mod x29 8)) fun x30 => N.ok (1 + x30)) fun x31 => (N.range x31)) fun x38 => lcN (fun (k' : Int) => (N.ok true)) (fun (k' : Int) => (N.bind (N.bind (N.bind (N.div cell' 3) fun x34 => N.bind (N.bind (N.bind (N.div cell' 5) fun x32 => (N.mod x32 7)) fun x33 => (N.mul x33 k')) fun x35 => N.ok (x34 + x35)) fun x36 => (N.mod x36 6)) fun x37 => (N.six letters' x37))) x38)) (GI := [.val eI cell', .any, .any, .val eS letters', .any, .any]) (vi_r1 (w := (N.bind (N.bind (N.bind (N.div cell' 3) fun x29 => (N.mod x29 8)) fun x30 => N.ok (1 + x30)) fun x31 => (N.range x31))) (va_one (ve_z (vz_2 (v := (N.bind (N.bind (N.div cell' 3) fun x29 => (N.mod x29 8)) fun x30 => N.ok (1 + x30))) vz_i (vz_2 (v := (N.bind (N.div cell' 3) fun x29 => (N.mod x29 8))) (vz_2 (v := (N.div cell' 3)) vz_var vz_i o_div nx_div) vz_i o_mod nx_mod) o_add nx_p2) zf_I))) vg_n ent_id (fun (k' : Int) => vt_true) (fun (k' : Int) => (ve_z (vz_2 (v := (N.bind (N.bind (N.bind (N.div cell' 3) fun x34 => N.bind (N.bind (N.bind (N.div cell' 5) fun x32 => (N.mod x32 7)) fun x33 => (N.mul x33 k')) fun x35 => N.ok (x34 + x35)) fun x36 => (N.mod x36 6)) fun x37 => (N.six letters' x37))) vz_var (vz_2 (v := (N.bind (N.bind (N.div cell' 3) fun x34 => N.bind (N.bind (N.bind (N.div cell' 5) fun x32 => (N.mod x32 7)) fun x33 => (N.mul x33 k')) fun x35 => N.ok (x34 + x35)) fun x36 => (N.mod x36 6))) (vz_2 (v := (N.bind (N.div cell' 3) fun x34 => N.bind (N.bind (N.bind (N.div cell' 5) fun x32 => (N.mod x32 7)) fun x33 => (N.mul x33 k')) fun x35 => N.ok (x34 + x35))) (vz_2 (v := (N.div cell' 3)) vz_var vz_i o_div nx_div) (vz_2 (v := (N.bind (N.bind (N.div cell' 5) fun x32 => (N.mod x32 7)) fun x33 => (N.mul x33 k'))) (vz_2 (v := (N.bind (N.div cell' 5) fun x32 => (N.mod x32 7))) (vz_2 (v := (N.div cell' 5)) vz_var vz_i o_div nx_div) vz_i o_mod nx_mod) vz_var o_mul nx_mul) o_add nx_p2) vz_i o_mod nx_mod) o_six nx_six) zf_S)) (fun (k' : Int) => ent_id) (fun (k' : Int) => ent_id))) vg_n (fun name' => (vs_retP (ve_tup (va_cons (u := N.ok ((D.tup [(D.str ("name" : Str)), (D.str name')]), [name'], 3, 0)) (ve_imp (w := N.ok (D.tup [(D.str ("name" : Str)), (D.str name')])) (ve_tup (va_cons (u := N.ok (("name" : Str), name')) (ve_z vz_s zf_S) (va_one (ve_varF zf_S))) (fzl_cons (fz_z zf_S) (fzl_one (fz_z zf_S))) (len_cons len_one)) _ (to_D (fx_T (fxl_cons fx_S (fxl_one fx_S))) zf_T)) (va_cons (u := N.ok ([name'], 3, 0)) (ve_lst (vl_cons (u := N.ok [name']) (ve_varF zf_S) vl_nil)) (va_cons (u := N.ok (3, 0)) (ve_z vz_i zf_I) (va_one (ve_z vz_i zf_I))))) (fzl_cons (fz_z zf_D) (fzl_cons (fz_L (fz_z zf_S)) (fzl_cons (fz_z zf_I) (fzl_one (fz_z zf_I))))) (len_cons (len_cons (len_cons len_one)))) (fun a => a) (fun a d τ h s => h)))))))))))
@[irreducible] noncomputable def n__law_shut (piece' : (D × (List Str) × Int × Int)) : N (D × (List Str) × Int × Int) := NS.f (σ := Unit) (κ := Unit) (
N.s (N.bind (N.bind (N.cat [("(" : Str)] piece'.2.1) fun x53 => (N.cat x53 [(")" : Str)])) fun x54 => N.ok (piece'.1, x54, 3, (piece'.2.2.2 + 1))) fun x57 => NS.rt x57)
theorem vf__law_shut : VF f__law_shut (fun (a : (D × (List Str) × Int × Int)) => n__law_shut a) (eOne (eTu (eCons eD (eCons (eLi false eS) (eCons eI (eOne eI)))))) (eTu (eCons eD (eCons (eLi false eS) (eCons eI (eOne eI))))) := by
  rintro piece' ds h
  show SatC _ (n__law_shut piece') _
  unfold n__law_shut
  exact satC_of (L := fun (_ : Unit) => []) (G' := fun (_ : Unit) => [.any]) (n := 1) (N := 1) (b := m__law_shut) rfl (inil_one _ _ h) rfl ((vs_ret (ve_tup (va_cons (u := (N.bind (N.bind (N.cat [("(" : Str)] piece'.2.1) fun x53 => (N.cat x53 [(")" : Str)])) fun x56 => N.ok (piece'.1, x56, 3, (piece'.2.2.2 + 1)))) (ve_z (vz_2 (v := N.ok piece'.1) vz_var (vz_k (k := 0)) (o_ixT pt_0) nx_p2) zf_D) (va_cons (u := (N.bind (N.bind (N.cat [("(" : Str)] piece'.2.1) fun x53 => (N.cat x53 [(")" : Str)])) fun x55 => N.ok (x55, 3, (piece'.2.2.2 + 1)))) (ve_cat (u := (N.bind (N.cat [("(" : Str)] piece'.2.1) fun x53 => (N.cat x53 [(")" : Str)]))) (ve_cat (u := (N.cat [("(" : Str)] piece'.2.1)) (ve_lst (vl_cons (u := N.ok [("(" : Str)]) (ve_z vz_s zf_S) vl_nil)) (ve_z (vz_2 (v := N.ok piece'.2.1) vz_var (vz_k (k := 1)) (o_ixT (pt_s pt_0)) nx_p2) zf_L) (fz_L (fz_z zf_S)) (fz_z zf_L)) (ve_lst (vl_cons (u := N.ok [(")" : Str)]) (ve_z vz_s zf_S) vl_nil)) (fz_L (fz_z zf_S)) (fz_L (fz_z zf_S))) (va_cons (u := N.ok (3, (piece'.2.2.2 + 1))) (ve_z vz_i zf_I) (va_one (ve_z (vz_2 (v := N.ok (piece'.2.2.2 + 1)) (vz_2 (v := N.ok piece'.2.2.2) vz_var (vz_k (k := 3)) (o_ixT (pt_s (pt_s (pt_s pt_1)))) nx_p2) vz_i o_add nx_p2) zf_I))))) (fzl_cons (fz_z zf_D) (fzl_cons (fz_L (fz_z zf_S)) (fzl_cons (fz_z zf_I) (fzl_one (fz_z zf_I))))) (len_cons (len_cons (len_cons len_one)))) (fun a => a) (fun a d τ h s => h)))
@[irreducible] noncomputable def n__law_at_least (piece' : (D × (List Str) × Int × Int)) (level' : Int) : N (D × (List Str) × Int × Int) := NS.f (σ := Unit) (κ := Unit) (
if (decide (piece'.2.2.1 < level')) = true then
N.s (n__law_shut piece') fun x62 => NS.rt x62
else
NS.rt piece')
theorem vf__law_at_least : VF f__law_at_least (fun (a : ((D × (List Str) × Int × Int) × Int)) => n__law_at_least a.1 a.2) (eCons (eTu (eCons eD (eCons (eLi false eS) (eCons eI (eOne eI))))) (eOne eI)) (eTu (eCons eD (eCons (eLi false eS) (eCons eI (eOne eI))))) := by
  rintro ⟨piece', level'⟩ ds h
  show SatC _ (n__law_at_least piece' level') _
  unfold n__law_at_least
  exact satC_of (L := fun (_ : Unit) => []) (G' := fun (_ : Unit) => [.any, .any]) (n := 2) (N := 2) (b := m__law_at_least) rfl ((inil_cons inil_one) _ _ h) rfl ((vs_ifP (vt_z (vz_2 (v := N.ok (decide (piece'.2.2.1 < level'))) (vz_2 (v := N.ok piece'.2.2.1) vz_var (vz_k (k := 2)) (o_ixT (pt_s (pt_s pt_0))) nx_p2) vz_var o_lt nx_p2)) (vs_stop (vs_ret (ve_call (v := (n__law_shut piece')) (va_one (ve_varF zf_T)) vf__law_shut (fzl_one (fz_z zf_T)) xt ) (fun a => a) (fun a d τ h s => h))) (vs_doc (vs_retP ve_mv (fun a => a) (fun a d τ h s => h)))))
@[irreducible] noncomputable def n__law_raised (piece' : (D × (List Str) × Int × Int)) (many' : Int) : N (D × (List Str) × Int × Int) := NS.f (σ := Unit) (κ := Unit) (
N.s (n__law_at_least piece' 3) fun piece'1 =>
N.s (N.bind (N.bind (N.bind (N.str many') fun x65 => N.ok [("^" : Str), x65]) fun x66 => (N.cat piece'1.2.1 x66)) fun x67 => N.ok ((D.tup [(D.str ("power" : Str)), piece'1.1, (D.int many')]), x67, 2, piece'1.2.2.2)) fun x70 => NS.rt x70)
theorem vf__law_raised : VF f__law_raised (fun (a : ((D × (List Str) × Int × Int) × Int)) => n__law_raised a.1 a.2) (eCons (eTu (eCons eD (eCons (eLi false eS) (eCons eI (eOne eI))))) (eOne eI)) (eTu (eCons eD (eCons (eLi false eS) (eCons eI (eOne eI))))) := by
  rintro ⟨piece', many'⟩ ds h
  show SatC _ (n__law_raised piece' many') _
  unfold n__law_raised
  exact satC_of (L := fun (_ : Unit) => []) (G' := fun (_ : Unit) => [.any, .any]) (n := 2) (N := 2) (b := m__law_raised) rfl ((inil_cons inil_one) _ _ h) rfl ((vs_asg (ve_call (v := (n__law_at_least piece' 3)) (va_cons (u := N.ok (piece', 3)) (ve_varF zf_T) (va_one (ve_z vz_i zf_I))) vf__law_at_least (fzl_cons (fz_z zf_T) (fzl_one (fz_z zf_I))) xt ) vg_n (fun piece'1 => (vs_ret (ve_tup (va_cons (u := (N.bind (N.bind (N.bind (N.str many') fun x65 => N.ok [("^" : Str), x65]) fun x66 => (N.cat piece'1.2.1 x66)) fun x69 => N.ok ((D.tup [(D.str ("power" : Str)), piece'1.1, (D.int many')]), x69, 2, piece'1.2.2.2))) (ve_imp (w := N.ok (D.tup [(D.str ("power" : Str)), piece'1.1, (D.int many')])) (ve_tup (va_cons (u := N.ok (("power" : Str), piece'1.1, many')) (ve_z vz_s zf_S) (va_cons (u := N.ok (piece'1.1, many')) (ve_z (vz_2 (v := N.ok piece'1.1) vz_var (vz_k (k := 0)) (o_ixT pt_0) nx_p2) zf_D) (va_one (ve_varF zf_I)))) (fzl_cons (fz_z zf_S) (fzl_cons (fz_z zf_D) (fzl_one (fz_z zf_I)))) (len_cons (len_cons len_one))) _ (to_D (fx_T (fxl_cons fx_S (fxl_cons fx_D (fxl_one fx_I)))) zf_T)) (va_cons (u := (N.bind (N.bind (N.bind (N.str many') fun x65 => N.ok [("^" : Str), x65]) fun x66 => (N.cat piece'1.2.1 x66)) fun x68 => N.ok (x68, 2, piece'1.2.2.2))) (ve_cat (u := (N.bind (N.bind (N.str many') fun x65 => N.ok [("^" : Str), x65]) fun x66 => (N.cat piece'1.2.1 x66))) (ve_z (vz_2 (v := N.ok piece'1.2.1) vz_var (vz_k (k := 1)) (o_ixT (pt_s pt_0)) nx_p2) zf_L) (ve_lst (vl_cons (u := (N.bind (N.str many') fun x64 => N.ok [("^" : Str), x64])) (ve_z vz_s zf_S) (vl_cons (u := (N.bind (N.str many') fun x63 => N.ok [x63])) (ve_c (v := (N.str many')) (va_one (ve_varF zf_I)) c_str zf_S nx_str ) vl_nil))) (fz_z zf_L) (fz_L (fz_z zf_S))) (va_cons (u := N.ok (2, piece'1.2.2.2)) (ve_z vz_i zf_I) (va_one (ve_z (vz_2 (v := N.ok piece'1.2.2.2) vz_var (vz_k (k := 3)) (o_ixT (pt_s (pt_s (pt_s pt_1)))) nx_p2) zf_I))))) (fzl_cons (fz_z zf_D) (fzl_cons (fz_L (fz_z zf_S)) (fzl_cons (fz_z zf_I) (fzl_one (fz_z zf_I))))) (len_cons (len_cons (len_cons len_one)))) (fun a => a) (fun a d τ h s => h)))))
@[irreducible] noncomputable def n__law_joined (way' : Int) (one' : (D × (List Str) × Int × Int)) (other' : (D × (List Str) × Int × Int)) : N (D × (List Str) × Int × Int) := NS.f (σ := Unit) (κ := Unit) (
N.s (N.ok (if (decide (way' = 2)) = true then 1 else 0)) fun level' =>
N.s (n__law_at_least one' level') fun one'1 =>
N.s (n__law_at_least other' (level' + 1)) fun other'1 =>
N.s (N.ix [("+" : Str), ("-" : Str), ("*" : Str)] way') fun sign' =>
N.s (N.bind (N.ix [("plus" : Str), ("minus" : Str), ("times" : Str)] way') fun x81 => N.ok (x81, one'1.1, other'1.1)) fun tree' =>
N.s (N.bind (N.bind (N.cat one'1.2.1 [sign']) fun x83 => (N.cat x83 other'1.2.1)) fun x84 => N.ok ((D.tup [(D.str tree'.1), tree'.2.1, tree'.2.2]), x84, level', (mxI one'1.2.2.2 other'1.2.2.2))) fun x87 => NS.rt x87)
theorem vf__law_joined : VF f__law_joined (fun (a : (Int × (D × (List Str) × Int × Int) × (D × (List Str) × Int × Int))) => n__law_joined a.1 a.2.1 a.2.2) (eCons eI (eCons (eTu (eCons eD (eCons (eLi false eS) (eCons eI (eOne eI))))) (eOne (eTu (eCons eD (eCons (eLi false eS) (eCons eI (eOne eI)))))))) (eTu (eCons eD (eCons (eLi false eS) (eCons eI (eOne eI))))) := by
  rintro ⟨way', one', other'⟩ ds h
  show SatC _ (n__law_joined way' one' other') _
  unfold n__law_joined
  exact satC_of (L := fun (_ : Unit) => []) (G' := fun (_ : Unit) => [.any, .any, .any, .any, .any, .any]) (n := 3) (N := 6) (b := m__law_joined) rfl ((inil_cons (inil_cons inil_one)) _ _ h) rfl ((vs_asg (ve_c (v := N.ok (if (decide (way' = 2)) = true then 1 else 0)) (va_one (ve_z (vz_2 (v := N.ok (decide (way' = 2))) vz_var vz_i o_eqI nx_p2) zf_B)) c_intB zf_I nx_p1 ) vg_n (fun level' => (vs_asg (ve_call (v := (n__law_at_least one' level')) (va_cons (u := N.ok (one', level')) (ve_varF zf_T) (va_one (ve_varF zf_I))) vf__law_at_least (fzl_cons (fz_z zf_T) (fzl_one (fz_z zf_I))) xt ) vg_n (fun one'1 => (vs_asg (ve_call (v := (n__law_at_least other' (level' + 1))) (va_cons (u := N.ok (other', (level' + 1))) (ve_varF zf_T) (va_one (ve_z (vz_2 (v := N.ok (level' + 1)) vz_var vz_i o_add nx_p2) zf_I))) vf__law_at_least (fzl_cons (fz_z zf_T) (fzl_one (fz_z zf_I))) xt ) vg_n (fun other'1 => (vs_asg (ve_2 (v := (N.ix [("+" : Str), ("-" : Str), ("*" : Str)] way')) (ve_lst (vl_cons (u := N.ok [("+" : Str), ("-" : Str), ("*" : Str)]) (ve_z vz_s zf_S) (vl_cons (u := N.ok [("-" : Str), ("*" : Str)]) (ve_z vz_s zf_S) (vl_cons (u := N.ok [("*" : Str)]) (ve_z vz_s zf_S) vl_nil)))) (ve_varF zf_I) o_ix zf_S nx_ix) vg_n (fun sign' => (vs_asg (ve_tup (va_cons (u := (N.bind (N.ix [("plus" : Str), ("minus" : Str), ("times" : Str)] way') fun x82 => N.ok (x82, one'1.1, other'1.1))) (ve_2 (v := (N.ix [("plus" : Str), ("minus" : Str), ("times" : Str)] way')) (ve_lst (vl_cons (u := N.ok [("plus" : Str), ("minus" : Str), ("times" : Str)]) (ve_z vz_s zf_S) (vl_cons (u := N.ok [("minus" : Str), ("times" : Str)]) (ve_z vz_s zf_S) (vl_cons (u := N.ok [("times" : Str)]) (ve_z vz_s zf_S) vl_nil)))) (ve_varF zf_I) o_ix zf_S nx_ix) (va_cons (u := N.ok (one'1.1, other'1.1)) (ve_z (vz_2 (v := N.ok one'1.1) vz_var (vz_k (k := 0)) (o_ixT pt_0) nx_p2) zf_D) (va_one (ve_z (vz_2 (v := N.ok other'1.1) vz_var (vz_k (k := 0)) (o_ixT pt_0) nx_p2) zf_D)))) (fzl_cons (fz_z zf_S) (fzl_cons (fz_z zf_D) (fzl_one (fz_z zf_D)))) (len_cons (len_cons len_one))) vg_n (fun tree' => (vs_ret (ve_tup (va_cons (u := (N.bind (N.bind (N.cat one'1.2.1 [sign']) fun x83 => (N.cat x83 other'1.2.1)) fun x86 => N.ok ((D.tup [(D.str tree'.1), tree'.2.1, tree'.2.2]), x86, level', (mxI one'1.2.2.2 other'1.2.2.2)))) (ve_imp (w := N.ok (D.tup [(D.str tree'.1), tree'.2.1, tree'.2.2])) (ve_varF zf_T) _ (to_D (fx_T (fxl_cons fx_S (fxl_cons fx_D (fxl_one fx_D)))) zf_T)) (va_cons (u := (N.bind (N.bind (N.cat one'1.2.1 [sign']) fun x83 => (N.cat x83 other'1.2.1)) fun x85 => N.ok (x85, level', (mxI one'1.2.2.2 other'1.2.2.2)))) (ve_cat (u := (N.bind (N.cat one'1.2.1 [sign']) fun x83 => (N.cat x83 other'1.2.1))) (ve_cat (u := (N.cat one'1.2.1 [sign'])) (ve_z (vz_2 (v := N.ok one'1.2.1) vz_var (vz_k (k := 1)) (o_ixT (pt_s pt_0)) nx_p2) zf_L) (ve_lst (vl_cons (u := N.ok [sign']) (ve_varF zf_S) vl_nil)) (fz_z zf_L) (fz_L (fz_z zf_S))) (ve_z (vz_2 (v := N.ok other'1.2.1) vz_var (vz_k (k := 1)) (o_ixT (pt_s pt_0)) nx_p2) zf_L) (fz_L (fz_z zf_S)) (fz_z zf_L)) (va_cons (u := N.ok (level', (mxI one'1.2.2.2 other'1.2.2.2))) (ve_varF zf_I) (va_one (ve_z (vz_call (v := N.ok (mxI one'1.2.2.2 other'1.2.2.2)) (vza_cons (u := N.ok (one'1.2.2.2, other'1.2.2.2)) (vz_2 (v := N.ok one'1.2.2.2) vz_var (vz_k (k := 3)) (o_ixT (pt_s (pt_s (pt_s pt_1)))) nx_p2) (vza_one (vz_2 (v := N.ok other'1.2.2.2) vz_var (vz_k (k := 3)) (o_ixT (pt_s (pt_s (pt_s pt_1)))) nx_p2))) c_max2 nx_p1 ) zf_I))))) (fzl_cons (fz_z zf_D) (fzl_cons (fz_L (fz_z zf_S)) (fzl_cons (fz_z zf_I) (fzl_one (fz_z zf_I))))) (len_cons (len_cons (len_cons len_one)))) (fun a => a) (fun a d τ h s => h)))))))))))))
@[irreducible] noncomputable def n__law_fits (piece' : (D × (List Str) × Int × Int)) : N Bool := NS.f (σ := Unit) (κ := Unit) (
NS.rt ((decide (((piece'.2.1).length : Int) < 120)) && (decide (piece'.2.2.2 < 17))))
theorem vf__law_fits : VF f__law_fits (fun (a : (D × (List Str) × Int × Int)) => n__law_fits a) (eOne (eTu (eCons eD (eCons (eLi false eS) (eCons eI (eOne eI)))))) eB := by
  rintro piece' ds h
  show SatC _ (n__law_fits piece') _
  unfold n__law_fits
  exact satC_of (L := fun (_ : Unit) => []) (G' := fun (_ : Unit) => [.any]) (n := 1) (N := 1) (b := m__law_fits) rfl (inil_one _ _ h) rfl ((vs_retP (ve_andP (ve_z (vz_2 (v := N.ok (decide (((piece'.2.1).length : Int) < 120))) (vz_call (v := N.ok ((piece'.2.1).length : Int)) (vza_one (vz_2 (v := N.ok piece'.2.1) vz_var (vz_k (k := 1)) (o_ixT (pt_s pt_0)) nx_p2)) c_len nx_p1 ) vz_i o_lt nx_p2) zf_B) (ve_z (vz_2 (v := N.ok (decide (piece'.2.2.2 < 17))) (vz_2 (v := N.ok piece'.2.2.2) vz_var (vz_k (k := 3)) (o_ixT (pt_s (pt_s (pt_s pt_1)))) nx_p2) vz_i o_lt nx_p2) zf_B) ent_id) (fun a => a) (fun a d τ h s => h)))
@[irreducible] noncomputable def n__law_grown (pieces' : (List (D × (List Str) × Int × Int))) (cell' : Int) : N (List (D × (List Str) × Int × Int)) := NS.f (σ := Unit) (κ := Unit) (
N.s (N.bind (N.mod cell' 8) fun x125 => N.ok (decide (x125 < 3))) fun b182 => if b182 = true then
N.s (N.bind (N.bind (N.bind (N.div cell' 8) fun x126 => (n__law_atom x126)) fun x128 => N.ok [x128]) fun x129 => (N.cat pieces' x129)) fun x130 => NS.rt x130
else
NS.s (
N.s (N.bind (N.mod cell' 8) fun x131 => N.ok (decide (x131 = 3))) fun b181 => if b181 = true then
N.s (N.bind (N.ix pieces' (-1)) fun x155 => (n__law_shut x155)) fun grown'3 =>
NS.nx (pieces', grown'3)
else
N.s (N.bind (N.mod cell' 8) fun x156 => N.ok (decide (x156 = 4))) fun b177 => if b177 = true then
N.s (N.bind (N.ix pieces' (-1)) fun x159 => N.bind (N.bind (N.bind (N.div cell' 8) fun x157 => (N.mod x157 5)) fun x158 => N.ok (2 + x158)) fun x160 => (n__law_raised x159 x160)) fun grown'4 =>
NS.nx (pieces', grown'4)
else
if (decide (((pieces').length : Int) < 2)) = true then
N.s (N.bind (N.bind (N.bind (N.div cell' 8) fun x163 => (n__law_atom x163)) fun x165 => N.ok [x165]) fun x166 => (N.cat pieces' x166)) fun x167 => NS.rt x167
else
N.s (N.bind (N.bind (N.mod cell' 8) fun x168 => N.ok (x168 - 5)) fun x169 => N.bind (N.ix pieces' (-2)) fun x170 => N.bind (N.ix pieces' (-1)) fun x171 => (n__law_joined x169 x170 x171)) fun grown'5 =>
N.s (N.ok (cutL pieces' none (some (-1)))) fun pieces'2 =>
NS.nx (pieces'2, grown'5)) fun s178 =>
N.s (N.not (n__law_fits s178.2)) fun b180 => if b180 = true then
NS.rt s178.1
else
N.s (N.cat (cutL s178.1 none (some (-1))) [s178.2]) fun x179 => NS.rt x179)
theorem vf__law_grown : VF f__law_grown (fun (a : ((List (D × (List Str) × Int × Int)) × Int)) => n__law_grown a.1 a.2) (eCons (eLi false (eTu (eCons eD (eCons (eLi false eS) (eCons eI (eOne eI)))))) (eOne eI)) (eLq (eTu (eCons eD (eCons (eLi false eS) (eCons eI (eOne eI))))) (eTu (eCons eD (eCons (eLi false eS) (eCons eI (eOne eI)))))) := by
  rintro ⟨pieces', cell'⟩ ds h
  show SatC _ (n__law_grown pieces' cell') _
  unfold n__law_grown
  exact satC_of (L := fun (_ : Unit) => []) (G' := fun (_ : Unit) => [.any, .any, .any]) (n := 2) (N := 3) (b := m__law_grown) rfl ((inil_cons inil_one) _ _ h) rfl ((vs_if (vt_z (vz_2 (v := (N.bind (N.mod cell' 8) fun x125 => N.ok (decide (x125 < 3)))) (vz_2 (v := (N.mod cell' 8)) vz_var vz_i o_mod nx_mod) vz_i o_lt nx_p2)) (vs_stop (vs_ret (ve_imp (w := (N.bind (N.bind (N.bind (N.div cell' 8) fun x126 => (n__law_atom x126)) fun x128 => N.ok [x128]) fun x129 => (N.cat pieces' x129))) (ve_cat (u := (N.bind (N.bind (N.bind (N.div cell' 8) fun x126 => (n__law_atom x126)) fun x128 => N.ok [x128]) fun x129 => (N.cat pieces' x129))) (ve_varF zf_L) (ve_lst (vl_cons (u := (N.bind (N.bind (N.div cell' 8) fun x126 => (n__law_atom x126)) fun x127 => N.ok [x127])) (ve_call (v := (N.bind (N.div cell' 8) fun x126 => (n__law_atom x126))) (va_one (ve_z (vz_2 (v := (N.div cell' 8)) vz_var vz_i o_div nx_div) zf_I)) vf__law_atom (fzl_one (fz_z zf_I)) xt ) vl_nil)) (fz_z zf_L) (fz_L (fz_z zf_T))) (fun a => a) se_lo (hv := by generalize (N.bind (N.bind (N.bind (N.div cell' 8) fun x126 => (n__law_atom x126)) fun x128 => N.ok [x128]) fun x129 => (N.cat pieces' x129)) = vv; cases vv <;> rfl)) (fun a => a) (fun a d τ h s => h))) (vs_doc (vs_ifJ (GJ := fun (y : ((List (D × (List Str) × Int × Int)) × (D × (List Str) × Int × Int))) => [.val (eLq (eTu (eCons eD (eCons (eLi false eS) (eCons eI (eOne eI))))) (eTu (eCons eD (eCons (eLi false eS) (eCons eI (eOne eI)))))) y.1, .val eI cell', .val (eTu (eCons eD (eCons (eLi false eS) (eCons eI (eOne eI))))) y.2]) (vt_z (vz_2 (v := (N.bind (N.mod cell' 8) fun x131 => N.ok (decide (x131 = 3)))) (vz_2 (v := (N.mod cell' 8)) vz_var vz_i o_mod nx_mod) vz_i o_eqI nx_p2)) (vs_one (vs_asg (ve_call (v := (N.bind (N.ix pieces' (-1)) fun x155 => (n__law_shut x155))) (va_one (ve_z (vz_2 (v := (N.ix pieces' (-1))) vz_var (vz_cst (c := -1) (fun _ => by rfl)) o_ix nx_ix) zf_T)) vf__law_shut (fzl_one (fz_z zf_T)) xt ) vg_n (fun grown'3 => (vs_end (ent_cons (se_e se_lf) (ent_cons se_id (ent_cons se_id ent_nil))))))) (vs_one (vs_if (vt_z (vz_2 (v := (N.bind (N.mod cell' 8) fun x156 => N.ok (decide (x156 = 4)))) (vz_2 (v := (N.mod cell' 8)) vz_var vz_i o_mod nx_mod) vz_i o_eqI nx_p2)) (vs_asg (ve_call (v := (N.bind (N.ix pieces' (-1)) fun x159 => N.bind (N.bind (N.bind (N.div cell' 8) fun x157 => (N.mod x157 5)) fun x158 => N.ok (2 + x158)) fun x160 => (n__law_raised x159 x160))) (va_cons (u := (N.bind (N.ix pieces' (-1)) fun x161 => N.bind (N.bind (N.bind (N.div cell' 8) fun x157 => (N.mod x157 5)) fun x158 => N.ok (2 + x158)) fun x162 => N.ok (x161, x162))) (ve_z (vz_2 (v := (N.ix pieces' (-1))) vz_var (vz_cst (c := -1) (fun _ => by rfl)) o_ix nx_ix) zf_T) (va_one (ve_z (vz_2 (v := (N.bind (N.bind (N.div cell' 8) fun x157 => (N.mod x157 5)) fun x158 => N.ok (2 + x158))) vz_i (vz_2 (v := (N.bind (N.div cell' 8) fun x157 => (N.mod x157 5))) (vz_2 (v := (N.div cell' 8)) vz_var vz_i o_div nx_div) vz_i o_mod nx_mod) o_add nx_p2) zf_I))) vf__law_raised (fzl_cons (fz_z zf_T) (fzl_one (fz_z zf_I))) xt ) vg_n (fun grown'4 => (vs_end (ent_cons (se_e se_lf) (ent_cons se_id (ent_cons se_id ent_nil)))))) (vs_ifP (vt_z (vz_2 (v := N.ok (decide (((pieces').length : Int) < 2))) (vz_call (v := N.ok ((pieces').length : Int)) (vza_one vz_var) c_len nx_p1 ) vz_i o_lt nx_p2)) (vs_stop (vs_ret (ve_imp (w := (N.bind (N.bind (N.bind (N.div cell' 8) fun x163 => (n__law_atom x163)) fun x165 => N.ok [x165]) fun x166 => (N.cat pieces' x166))) (ve_cat (u := (N.bind (N.bind (N.bind (N.div cell' 8) fun x163 => (n__law_atom x163)) fun x165 => N.ok [x165]) fun x166 => (N.cat pieces' x166))) (ve_varF zf_L) (ve_lst (vl_cons (u := (N.bind (N.bind (N.div cell' 8) fun x163 => (n__law_atom x163)) fun x164 => N.ok [x164])) (ve_call (v := (N.bind (N.div cell' 8) fun x163 => (n__law_atom x163))) (va_one (ve_z (vz_2 (v := (N.div cell' 8)) vz_var vz_i o_div nx_div) zf_I)) vf__law_atom (fzl_one (fz_z zf_I)) xt ) vl_nil)) (fz_z zf_L) (fz_L (fz_z zf_T))) (fun a => a) se_lo (hv := by generalize (N.bind (N.bind (N.bind (N.div cell' 8) fun x163 => (n__law_atom x163)) fun x165 => N.ok [x165]) fun x166 => (N.cat pieces' x166)) = vv; cases vv <;> rfl)) (fun a => a) (fun a d τ h s => h))) (vs_assoc (vs_asg (ve_call (v := (N.bind (N.bind (N.mod cell' 8) fun x168 => N.ok (x168 - 5)) fun x169 => N.bind (N.ix pieces' (-2)) fun x170 => N.bind (N.ix pieces' (-1)) fun x171 => (n__law_joined x169 x170 x171))) (va_cons (u := (N.bind (N.bind (N.mod cell' 8) fun x168 => N.ok (x168 - 5)) fun x174 => N.bind (N.ix pieces' (-2)) fun x175 => N.bind (N.ix pieces' (-1)) fun x176 => N.ok (x174, x175, x176))) (ve_z (vz_2 (v := (N.bind (N.mod cell' 8) fun x168 => N.ok (x168 - 5))) (vz_2 (v := (N.mod cell' 8)) vz_var vz_i o_mod nx_mod) vz_i o_sub nx_p2) zf_I) (va_cons (u := (N.bind (N.ix pieces' (-2)) fun x172 => N.bind (N.ix pieces' (-1)) fun x173 => N.ok (x172, x173))) (ve_z (vz_2 (v := (N.ix pieces' (-2))) vz_var (vz_cst (c := -2) (fun _ => by rfl)) o_ix nx_ix) zf_T) (va_one (ve_z (vz_2 (v := (N.ix pieces' (-1))) vz_var (vz_cst (c := -1) (fun _ => by rfl)) o_ix nx_ix) zf_T)))) vf__law_joined (fzl_cons (fz_z zf_I) (fzl_cons (fz_z zf_T) (fzl_one (fz_z zf_T)))) xt ) vg_n (fun grown'5 => (vs_asg (ve_slice (w := N.ok (cutL pieces' none (some (-1)))) (ve_varF zf_L) (fz_z zf_L) vp_none (vp_some (ve_z (vz_cst (c := -1) (fun _ => by rfl)) zf_I)) sl_L (fun _ _ _ _ h => by cases h)) vg_n (fun pieces'2 => (vs_one (vs_doc (vs_end (ent_cons (se_e se_lo) (ent_cons se_id (ent_cons se_id ent_nil)))))))))))))) (fun s178 => (vs_if (vt_not (vt_e (ve_call (v := (n__law_fits s178.2)) (va_one (ve_varF zf_T)) vf__law_fits (fzl_one (fz_z zf_T)) xt ))) (vs_stop (vs_retP ve_mv (fun a => a) (fun a d τ h s => h))) (vs_doc (vs_ret (ve_imp (w := (N.cat (cutL s178.1 none (some (-1))) [s178.2])) (ve_cat (u := (N.cat (cutL s178.1 none (some (-1))) [s178.2])) (ve_slice (w := N.ok (cutL s178.1 none (some (-1)))) (ve_var (fz_Lq (fz_z zf_T))) (fz_z zf_L) vp_none (vp_some (ve_z (vz_cst (c := -1) (fun _ => by rfl)) zf_I)) sl_L (fun _ _ _ _ h => by cases h)) (ve_lst (vl_cons (u := N.ok [s178.2]) (ve_varF zf_T) vl_nil)) (fz_L (fz_z zf_T)) (fz_L (fz_z zf_T))) (fun a => a) se_lo (hv := by generalize (N.cat (cutL s178.1 none (some (-1))) [s178.2]) = vv; cases vv <;> rfl)) (fun a => a) (fun a d τ h s => h)))))))))
@[irreducible] noncomputable def n_look_at_brackets (words' : (List Str)) : N Unit := NS.fz () (σ := Unit) (κ := Unit) (
N.s (N.ok words') fun x215 =>
NS.s (forN (fun (word' : Str) (s205 : Int) =>
NS.s (
N.s (N.gb (gEq (D.str word') (D.str ("(" : Str)))) fun b213 => if b213 = true then
N.s (N.ok (s205 + 1)) fun deep'5 =>
NS.nx deep'5
else
NS.nx s205) fun s210 =>
NS.s (
N.s (N.gb (gEq (D.str word') (D.str (")" : Str)))) fun b212 => if b212 = true then
N.s (N.ok (s210 - 1)) fun deep'7 =>
NS.nx deep'7
else
NS.nx s210) fun s211 =>
if ((decide (s211 < 0)) || (decide (16 < s211))) = true then
NS.ex "NoRow"
else
NS.nx s211) x215 0) fun s214 =>
NS.nx ())
theorem vf_look_at_brackets : VF f_look_at_brackets (fun (a : (List Str)) => n_look_at_brackets a) (eOne (eLi false eS)) eN := by
  rintro words' ds h
  show SatC _ (n_look_at_brackets words') _
  unfold n_look_at_brackets
  exact satC_ofz (L := fun (_ : Unit) => []) (G' := fun (_ : Unit) => [.any, .any, .any]) (z := ()) rfl (n := 1) (N := 3) (b := m_look_at_brackets) rfl (inil_one _ _ h) rfl ((vs_asgP (ve_z vz_i zf_I) vg_n (vs_one (vs_for (GI := fun (y : Int) => [.val (eLi false eS) words', .val eI y, .any]) (s0 := 0) (vi_l (ve_varF zf_L) (fz_z zf_L)) vg_n ent_id (fun (word' : Str) (s205 : Int) => (vs_ifJ (GJ := fun (y : Int) => [.val (eLi false eS) words', .val eI y, .val eS word']) (vt_z (vz_2 (v := (N.gb (gEq (D.str word') (D.str ("(" : Str))))) vz_var vz_s (o_eq fn_S fn_S) nx_gb2)) (vs_one (vs_asg (ve_z (vz_2 (v := N.ok (s205 + 1)) vz_var vz_i o_add nx_p2) zf_I) vg_n (fun deep'5 => (vs_end ent_id)))) (vs_end ent_id) (fun s210 => (vs_ifJ (GJ := fun (y : Int) => [.val (eLi false eS) words', .val eI y, .val eS word']) (vt_z (vz_2 (v := (N.gb (gEq (D.str word') (D.str (")" : Str))))) vz_var vz_s (o_eq fn_S fn_S) nx_gb2)) (vs_one (vs_asg (ve_z (vz_2 (v := N.ok (s210 - 1)) vz_var vz_i o_sub nx_p2) zf_I) vg_n (fun deep'7 => (vs_end ent_id)))) (vs_end ent_id) (fun s211 => (vs_one (vs_ifP (vt_orP (vt_z (vz_2 (v := N.ok (decide (s211 < 0))) vz_var vz_i o_lt nx_p2)) (vt_z (vz_2 (v := N.ok (decide (16 < s211))) vz_var (vz_c (show eI 16 k_DEEPEST from rfl)) o_gt nx_p2)) ent_id) (vs_stop (vs_raise xt)) (vs_doc (vs_end (ent_cons se_id (ent_cons se_id (ent_cons se_any ent_nil)))))))))))) (fun (s214 : Int) => (vs_end (ent_cons se_any (ent_cons se_any (ent_cons se_any ent_nil)))))))))
@[irreducible] noncomputable def n_word_at (words' : (List Str)) (at' : Int) : N Str := NS.f (σ := Unit) (κ := Unit) (
if (decide (at' < ((words').length : Int))) = true then
N.s (N.ix words' at') fun x217 => NS.rt x217
else
NS.rt ("" : Str))
theorem vf_word_at : VF f_word_at (fun (a : ((List Str) × Int)) => n_word_at a.1 a.2) (eCons (eLi false eS) (eOne eI)) eS := by
  rintro ⟨words', at'⟩ ds h
  show SatC _ (n_word_at words' at') _
  unfold n_word_at
  exact satC_of (L := fun (_ : Unit) => []) (G' := fun (_ : Unit) => [.any, .any]) (n := 2) (N := 2) (b := m_word_at) rfl ((inil_cons inil_one) _ _ h) rfl ((vs_ifP (vt_z (vz_2 (v := N.ok (decide (at' < ((words').length : Int)))) vz_var (vz_call (v := N.ok ((words').length : Int)) (vza_one vz_var) c_len nx_p1 ) o_lt nx_p2)) (vs_stop (vs_ret (ve_z (vz_2 (v := (N.ix words' at')) vz_var vz_var o_ix nx_ix) zf_S) (fun a => a) (fun a d τ h s => h))) (vs_doc (vs_retP (ve_z vz_s zf_S) (fun a => a) (fun a d τ h s => h)))))
@[irreducible] noncomputable def n_is_name (word' : Str) : N Bool := NS.f (σ := Unit) (κ := Unit) (
N.s (N.or (N.gb (gEq (D.str word') (D.str ("" : Str)))) (N.or (N.bind (N.slen word') fun x227 => N.ok (decide (8 < x227))) (N.gb (gIn false (D.str word') k_KEPT)))) fun b233 => if b233 = true then
NS.rt false
else
N.s (N.ok (signs word')) fun x232 =>
NS.s (forN (fun (sign' : Str) (s228 : Unit) =>
N.s (N.not (N.sin sign' ("abcdefghijklmnopqrstuvwxyz" : Str))) fun b230 => if b230 = true then
NS.rt false
else
NS.nx ()) x232 ()) fun s231 =>
NS.rt true)
theorem vf_is_name : VF f_is_name (fun (a : Str) => n_is_name a) (eOne eS) eB := by
  rintro word' ds h
  show SatC _ (n_is_name word') _
  unfold n_is_name
  exact satC_of (L := fun (_ : Unit) => []) (G' := fun (_ : Unit) => [.any, .any]) (n := 1) (N := 2) (b := m_is_name) rfl (inil_one _ _ h) rfl ((vs_if (vt_or (vt_z (vz_2 (v := (N.gb (gEq (D.str word') (D.str ("" : Str))))) vz_var vz_s (o_eq fn_S fn_S) nx_gb2)) (vt_or (vt_z (vz_2 (v := (N.bind (N.slen word') fun x227 => N.ok (decide (8 < x227)))) (vz_call (v := (N.slen word')) (vza_one vz_var) c_lenS nx_slen ) vz_i o_gt nx_p2)) (vt_z (vz_2 (v := (N.gb (gIn false (D.str word') k_KEPT))) vz_var (vz_d (d := k_KEPT)) (o_in (neg := false) fx_S fx_D) nx_gb2)) ent_id) ent_id) (vs_stop (vs_retP (ve_z vz_b zf_B) (fun a => a) (fun a d τ h s => h))) (vs_doc (vs_for (GI := fun (y : Unit) => [.val eS word', .any]) (s0 := ()) (vi_s (w := N.ok (signs word')) (ve_varF zf_S)) vg_n ent_id (fun (sign' : Str) (s228 : Unit) => (vs_one (vs_if (vt_z (vz_2 (v := (N.not (N.sin sign' ("abcdefghijklmnopqrstuvwxyz" : Str)))) vz_var (vz_c (show eS "abcdefghijklmnopqrstuvwxyz" k_LETTERS from rfl)) o_snotin nx_snotin)) (vs_stop (vs_retP (ve_z vz_b zf_B) (fun a => a) (fun a d τ h s => h))) (vs_doc (vs_end (ent_cons se_id (ent_cons se_any ent_nil))))))) (fun (s231 : Unit) => (vs_retP (ve_z vz_b zf_B) (fun a => a) (fun a d τ h s => h)))))))
@[irreducible] noncomputable def n_whole_of (figures' : Str) : N Int := NS.f (σ := Unit) (κ := Unit) (
N.s (N.or (N.gb (gEq (D.str figures') (D.str ("" : Str)))) (N.bind (N.slen figures') fun x250 => N.ok (decide (9 < x250)))) fun b260 => if b260 = true then
NS.ex "NoRow"
else
N.s (N.ok (signs figures')) fun x259 =>
NS.s (forN (fun (sign' : Str) (s251 : Unit) =>
N.s (N.not (N.sin sign' ("0123456789" : Str))) fun b253 => if b253 = true then
NS.ex "NoRow"
else
NS.nx ()) x259 ()) fun s254 =>
N.s (N.and (N.bind (N.six figures' 0) fun x255 => (N.gb (gEq (D.str x255) (D.str ("0" : Str))))) (N.bind (N.slen figures') fun x256 => N.ok (decide (1 < x256)))) fun b258 => if b258 = true then
NS.ex "NoRow"
else
N.s (N.int figures') fun x257 => NS.rt x257)
theorem vf_whole_of : VF f_whole_of (fun (a : Str) => n_whole_of a) (eOne eS) eI := by
  rintro figures' ds h
  show SatC _ (n_whole_of figures') _
  unfold n_whole_of
  exact satC_of (L := fun (_ : Unit) => []) (G' := fun (_ : Unit) => [.any, .any]) (n := 1) (N := 2) (b := m_whole_of) rfl (inil_one _ _ h) rfl ((vs_if (vt_or (vt_z (vz_2 (v := (N.gb (gEq (D.str figures') (D.str ("" : Str))))) vz_var vz_s (o_eq fn_S fn_S) nx_gb2)) (vt_z (vz_2 (v := (N.bind (N.slen figures') fun x250 => N.ok (decide (9 < x250)))) (vz_call (v := (N.slen figures')) (vza_one vz_var) c_lenS nx_slen ) vz_i o_gt nx_p2)) ent_id) (vs_stop (vs_raise xt)) (vs_doc (vs_for (GI := fun (y : Unit) => [.val eS figures', .any]) (s0 := ()) (vi_s (w := N.ok (signs figures')) (ve_varF zf_S)) vg_n ent_id (fun (sign' : Str) (s251 : Unit) => (vs_one (vs_if (vt_z (vz_2 (v := (N.not (N.sin sign' ("0123456789" : Str)))) vz_var (vz_c (show eS "0123456789" k_FIGURES from rfl)) o_snotin nx_snotin)) (vs_stop (vs_raise xt)) (vs_doc (vs_end (ent_cons se_id (ent_cons se_any ent_nil))))))) (fun (s254 : Unit) => (vs_if (vt_and (vt_z (vz_2 (v := (N.bind (N.six figures' 0) fun x255 => (N.gb (gEq (D.str x255) (D.str ("0" : Str)))))) (vz_2 (v := (N.six figures' 0)) vz_var vz_i o_six nx_six) vz_s (o_eq fn_S fn_S) nx_gb2)) (vt_z (vz_2 (v := (N.bind (N.slen figures') fun x256 => N.ok (decide (1 < x256)))) (vz_call (v := (N.slen figures')) (vza_one vz_var) c_lenS nx_slen ) vz_i o_gt nx_p2)) ent_id) (vs_stop (vs_raise xt)) (vs_doc (vs_ret (ve_c (v := (N.int figures')) (va_one (ve_varF zf_S)) c_intS zf_I nx_int ) (fun a => a) (fun a d τ h s => h)))))))))
@[irreducible] noncomputable def n_divisor (a' : Int) (b' : Int) : N Int := NS.f (σ := Unit) (κ := Unit) (
N.s (N.ok (if a' < 0 then -a' else a')) fun a'1 =>
N.s (N.ok (if b' < 0 then -b' else b')) fun b'1 =>
NS.s (whileN (fun (s273 : (Int × Int)) => (N.ok (decide (0 < s273.2)))) (fun (s273 : (Int × Int)) =>
N.s (N.mod s273.1 s273.2) fun rest'1 =>
NS.nx (s273.2, rest'1)) fuelN (a'1, b'1)) fun s274 =>
NS.rt s274.1)
theorem vf_divisor : VF f_divisor (fun (a : (Int × Int)) => n_divisor a.1 a.2) (eCons eI (eOne eI)) eI := by
  rintro ⟨a', b'⟩ ds h
  show SatC _ (n_divisor a' b') _
  unfold n_divisor
  exact satC_of (L := fun (_ : Unit) => []) (G' := fun (_ : Unit) => [.any, .any, .any]) (n := 2) (N := 3) (b := m_divisor) rfl ((inil_cons inil_one) _ _ h) rfl ((vs_asg (ve_z (vz_call (v := N.ok (if a' < 0 then -a' else a')) (vza_one vz_var) c_abs nx_p1 ) zf_I) vg_n (fun a'1 => (vs_asg (ve_z (vz_call (v := N.ok (if b' < 0 then -b' else b')) (vza_one vz_var) c_abs nx_p1 ) zf_I) vg_n (fun b'1 => (vs_while (F := fuelN) (GI := fun (y : (Int × Int)) => [.val eI y.1, .val eI y.2, .any]) (GC := fun (y : (Int × Int)) => [.val eI y.1, .val eI y.2, .any]) (s0 := (a'1, b'1)) ent_id (fun s273 => (vt_ent (vt_z (vz_2 (v := N.ok (decide (0 < s273.2))) vz_var vz_i o_gt nx_p2)) ent_id)) (fun s273 => (vs_asg (ve_z (vz_2 (v := (N.mod s273.1 s273.2)) vz_var vz_var o_mod nx_mod) zf_I) vg_n (fun rest'1 => (vs_asgP (ve_varF zf_I) vg_n (vs_one (vs_asgP (ve_varF zf_I) vg_n (vs_end (ent_cons se_id (ent_cons se_id (ent_cons se_any ent_nil)))))))))) (fun _ => ent_id) (fun s274 => (vs_retP ve_mv (fun a => a) (fun a d τ h s => h)))))))))
@[irreducible] noncomputable def n_fraction (top' : Int) (bottom' : Int) : N (Int × Int) := NS.f (σ := Unit) (κ := Unit) (
if (decide (bottom' = 0)) = true then
NS.ex "NoNumber"
else
NS.s (
if (decide (bottom' < 0)) = true then
N.s (N.ok (-top')) fun top'2 =>
N.s (N.ok (-bottom')) fun bottom'2 =>
NS.nx (top'2, bottom'2)
else
NS.nx (top', bottom')) fun s280 =>
N.s (n_divisor s280.1 s280.2) fun shared' =>
N.s (N.bind (N.div s280.1 shared') fun x281 => N.bind (N.div s280.2 shared') fun x282 => N.ok (x281, x282)) fun x285 => NS.rt x285)
theorem vf_fraction : VF f_fraction (fun (a : (Int × Int)) => n_fraction a.1 a.2) (eCons eI (eOne eI)) (eTu (eCons eI (eOne eI))) := by
  rintro ⟨top', bottom'⟩ ds h
  show SatC _ (n_fraction top' bottom') _
  unfold n_fraction
  exact satC_of (L := fun (_ : Unit) => []) (G' := fun (_ : Unit) => [.any, .any, .any]) (n := 2) (N := 3) (b := m_fraction) rfl ((inil_cons inil_one) _ _ h) rfl ((vs_ifP (vt_z (vz_2 (v := N.ok (decide (bottom' = 0))) vz_var vz_i o_eqI nx_p2)) (vs_stop (vs_raise xt)) (vs_doc (vs_ifJP (GJ := fun (y : (Int × Int)) => [.val eI y.1, .val eI y.2, .any]) (vt_z (vz_2 (v := N.ok (decide (bottom' < 0))) vz_var vz_i o_lt nx_p2)) (vs_asg (ve_z (vz_1 (v := N.ok (-top')) vz_var o_neg nx_p1) zf_I) vg_n (fun top'2 => (vs_one (vs_asg (ve_z (vz_1 (v := N.ok (-bottom')) vz_var o_neg nx_p1) zf_I) vg_n (fun bottom'2 => (vs_end ent_id)))))) (vs_end ent_id) (fun s280 => (vs_asg (ve_call (v := (n_divisor s280.1 s280.2)) (va_cons (u := N.ok (s280.1, s280.2)) (ve_varF zf_I) (va_one (ve_varF zf_I))) vf_divisor (fzl_cons (fz_z zf_I) (fzl_one (fz_z zf_I))) xt ) vg_n (fun shared' => (vs_ret (ve_tup (va_cons (u := (N.bind (N.div s280.1 shared') fun x283 => N.bind (N.div s280.2 shared') fun x284 => N.ok (x283, x284))) (ve_z (vz_2 (v := (N.div s280.1 shared')) vz_var vz_var o_div nx_div) zf_I) (va_one (ve_z (vz_2 (v := (N.div s280.2 shared')) vz_var vz_var o_div nx_div) zf_I))) (fzl_cons (fz_z zf_I) (fzl_one (fz_z zf_I))) (len_cons len_one)) (fun a => a) (fun a d τ h s => h)))))))))
@[irreducible] noncomputable def n_number_of (word' : Str) : N (Int × Int) := NS.f (σ := Unit) (κ := Unit) (
N.s (N.split word' ("/" : Str)) fun parts' =>
if (decide (2 < ((parts').length : Int))) = true then
NS.ex "NoRow"
else
NS.s (
N.s (N.bind (N.bind (N.ix parts' 0) fun x290 => (N.cutS x290 none (some 1))) fun x291 => (N.gb (gEq (D.str x291) (D.str ("-" : Str))))) fun b305 => if b305 = true then
N.s (N.bind (N.bind (N.bind (N.ix parts' 0) fun x296 => (N.cutS x296 (some 1) none)) fun x297 => (n_whole_of x297)) fun x298 => N.ok (-x298)) fun top'2 =>
if (decide (top'2 = 0)) = true then
NS.ex "NoRow"
else
NS.nx top'2
else
N.s (N.bind (N.ix parts' 0) fun x299 => (n_whole_of x299)) fun top'3 =>
NS.nx top'3) fun s300 =>
if (decide (((parts').length : Int) = 1)) = true then
NS.rt (s300, 1)
else
N.s (N.bind (N.ix parts' 1) fun x301 => (n_whole_of x301)) fun bottom' =>
N.s (N.or (N.ok (decide (bottom' < 2))) (N.bind (n_fraction s300 bottom') fun x303 => (N.gb (gNe (D.tup [(D.int x303.1), (D.int x303.2)]) (D.tup [(D.int s300), (D.int bottom')]))))) fun b304 => if b304 = true then
NS.ex "NoRow"
else
NS.rt (s300, bottom'))
theorem vf_number_of : VF f_number_of (fun (a : Str) => n_number_of a) (eOne eS) (eTu (eCons eI (eOne eI))) := by
  rintro word' ds h
  show SatC _ (n_number_of word') _
  unfold n_number_of
  exact satC_of (L := fun (_ : Unit) => []) (G' := fun (_ : Unit) => [.any, .any, .any, .any]) (n := 1) (N := 4) (b := m_number_of) rfl (inil_one _ _ h) rfl ((vs_asg (ve_split (u := (N.split word' ("/" : Str))) (ve_varF zf_S) (ve_z vz_s zf_S)) vg_n (fun parts' => (vs_ifP (vt_z (vz_2 (v := N.ok (decide (2 < ((parts').length : Int)))) (vz_call (v := N.ok ((parts').length : Int)) (vza_one vz_var) c_len nx_p1 ) vz_i o_gt nx_p2)) (vs_stop (vs_raise xt)) (vs_doc (vs_ifJ (GJ := fun (y : Int) => [.val eS word', .val (eLi true eS) parts', .val eI y, .any]) (vt_e (ve_2 (v := (N.bind (N.bind (N.ix parts' 0) fun x290 => (N.cutS x290 none (some 1))) fun x291 => (N.gb (gEq (D.str x291) (D.str ("-" : Str)))))) (ve_slice (w := (N.bind (N.ix parts' 0) fun x290 => (N.cutS x290 none (some 1)))) (ve_z (vz_2 (v := (N.ix parts' 0)) vz_var vz_i o_ix nx_ix) zf_S) (fz_z zf_S) vp_none (vp_some (ve_z vz_i zf_I)) sl_S nx_cutS) (ve_z vz_s zf_S) (o_eq fn_S fn_S) zf_B nx_gb2)) (vs_asg (ve_1 (v := (N.bind (N.bind (N.bind (N.ix parts' 0) fun x296 => (N.cutS x296 (some 1) none)) fun x297 => (n_whole_of x297)) fun x298 => N.ok (-x298))) (ve_call (v := (N.bind (N.bind (N.ix parts' 0) fun x296 => (N.cutS x296 (some 1) none)) fun x297 => (n_whole_of x297))) (va_one (ve_slice (w := (N.bind (N.ix parts' 0) fun x296 => (N.cutS x296 (some 1) none))) (ve_z (vz_2 (v := (N.ix parts' 0)) vz_var vz_i o_ix nx_ix) zf_S) (fz_z zf_S) (vp_some (ve_z vz_i zf_I)) vp_none sl_S nx_cutS)) vf_whole_of (fzl_one (fz_z zf_S)) xt ) o_neg zf_I nx_p1) vg_n (fun top'2 => (vs_one (vs_ifP (vt_z (vz_2 (v := N.ok (decide (top'2 = 0))) vz_var vz_i o_eqI nx_p2)) (vs_stop (vs_raise xt)) (vs_doc (vs_end ent_id)))))) (vs_one (vs_asg (ve_call (v := (N.bind (N.ix parts' 0) fun x299 => (n_whole_of x299))) (va_one (ve_z (vz_2 (v := (N.ix parts' 0)) vz_var vz_i o_ix nx_ix) zf_S)) vf_whole_of (fzl_one (fz_z zf_S)) xt ) vg_n (fun top'3 => (vs_end ent_id)))) (fun s300 => (vs_ifP (vt_z (vz_2 (v := N.ok (decide (((parts').length : Int) = 1))) (vz_call (v := N.ok ((parts').length : Int)) (vza_one vz_var) c_len nx_p1 ) vz_i o_eqI nx_p2)) (vs_stop (vs_retP (ve_tup (va_cons (u := N.ok (s300, 1)) (ve_varF zf_I) (va_one (ve_z vz_i zf_I))) (fzl_cons (fz_z zf_I) (fzl_one (fz_z zf_I))) (len_cons len_one)) (fun a => a) (fun a d τ h s => h))) (vs_doc (vs_asg (ve_call (v := (N.bind (N.ix parts' 1) fun x301 => (n_whole_of x301))) (va_one (ve_z (vz_2 (v := (N.ix parts' 1)) vz_var vz_i o_ix nx_ix) zf_S)) vf_whole_of (fzl_one (fz_z zf_S)) xt ) vg_n (fun bottom' => (vs_if (vt_or (vt_z (vz_2 (v := N.ok (decide (bottom' < 2))) vz_var vz_i o_lt nx_p2)) (vt_e (ve_2 (v := (N.bind (n_fraction s300 bottom') fun x303 => (N.gb (gNe (D.tup [(D.int x303.1), (D.int x303.2)]) (D.tup [(D.int s300), (D.int bottom')]))))) (ve_call (v := (n_fraction s300 bottom')) (va_cons (u := N.ok (s300, bottom')) (ve_varF zf_I) (va_one (ve_varF zf_I))) vf_fraction (fzl_cons (fz_z zf_I) (fzl_one (fz_z zf_I))) xt ) (ve_tup (va_cons (u := N.ok (s300, bottom')) (ve_varF zf_I) (va_one (ve_varF zf_I))) (fzl_cons (fz_z zf_I) (fzl_one (fz_z zf_I))) (len_cons len_one)) (o_ne (fn_T (fnl_cons fn_I (fnl_one fn_I))) (fn_T (fnl_cons fn_I (fnl_one fn_I)))) zf_B nx_gb2)) ent_id) (vs_stop (vs_raise xt)) (vs_doc (vs_retP (ve_tup (va_cons (u := N.ok (s300, bottom')) (ve_varF zf_I) (va_one (ve_varF zf_I))) (fzl_cons (fz_z zf_I) (fzl_one (fz_z zf_I))) (len_cons len_one)) (fun a => a) (fun a d τ h s => h)))))))))))))))
def kn_POWERS : List (Str × Int) := [("2", (2 : Int)), ("3", (3 : Int)), ("4", (4 : Int)), ("5", (5 : Int)), ("6", (6 : Int))]
theorem kt_POWERS : kTy eI kn_POWERS kd_POWERS := (kty_cons rfl (kty_cons rfl (kty_cons rfl (kty_cons rfl (kty_cons rfl kty_nil)))))
mutual
noncomputable def nr_atom_at : Nat → (List Str) → Int → N (D × Int)
  | 0, _, _ => .bad
  | k + 1, words', at' => NS.f (σ := Unit) (κ := Unit) (
N.s (n_word_at words' at') fun word' =>
N.s (N.gb (gEq (D.str word') (D.str ("(" : Str)))) fun b307 => if b307 = true then
N.s ((nr_sum_at k) words' (at' + 1)) fun found' =>
N.s (N.bind (n_word_at words' found'.2) fun x218 => (N.gb (gNe (D.str x218) (D.str (")" : Str))))) fun b219 => if b219 = true then
NS.ex "NoRow"
else
NS.rt (found'.1, (found'.2 + 1))
else
N.s (n_is_name word') fun b306 => if b306 = true then
NS.rt ((D.tup [(D.str ("name" : Str)), (D.str word')]), (at' + 1))
else
N.s (n_number_of word') fun a' =>
NS.rt ((D.tup [(D.str ("number" : Str)), (D.int a'.1), (D.int a'.2)]), (at' + 1)))
noncomputable def nr_power_at : Nat → (List Str) → Int → N (D × Int)
  | 0, _, _ => .bad
  | k + 1, words', at' => NS.f (σ := Unit) (κ := Unit) (
N.s ((nr_atom_at k) words' at') fun found' =>
N.s (N.bind (n_word_at words' found'.2) fun x308 => (N.gb (gNe (D.str x308) (D.str ("^" : Str))))) fun b316 => if b316 = true then
NS.rt found'
else
N.s (n_word_at words' (found'.2 + 1)) fun many' =>
if (kdInN true kn_POWERS many') = true then
NS.ex "NoRow"
else
N.s (N.bind (N.bind (N.bind (kdIxN kn_POWERS many') fun x309 => N.ok (("power" : Str), found'.1, x309)) fun x312 => N.ok (D.tup [(D.str x312.1), x312.2.1, (D.int x312.2.2)])) fun x313 => N.ok (x313, (found'.2 + 2))) fun x315 => NS.rt x315)
noncomputable def nr_product_at : Nat → (List Str) → Int → N (D × Int)
  | 0, _, _ => .bad
  | k + 1, words', at' => NS.f (σ := Unit) (κ := Unit) (
N.s ((nr_power_at k) words' at') fun found' =>
NS.s (whileN (fun (s317 : (D × Int)) => (N.bind (n_word_at words' s317.2) fun x319 => (N.gb (gEq (D.str x319) (D.str ("*" : Str)))))) (fun (s317 : (D × Int)) =>
N.s ((nr_power_at k) words' (s317.2 + 1)) fun other'1 =>
N.s (N.ok ((D.tup [(D.str ("times" : Str)), s317.1, other'1.1]), other'1.2)) fun found'2 =>
NS.nx found'2) fuelN found') fun s320 =>
NS.rt s320)
noncomputable def nr_sum_at : Nat → (List Str) → Int → N (D × Int)
  | 0, _, _ => .bad
  | k + 1, words', at' => NS.f (σ := Unit) (κ := Unit) (
N.s ((nr_product_at k) words' at') fun found' =>
NS.s (whileN (fun (s321 : (D × Int)) => (N.bind (n_word_at words' s321.2) fun x326 => (N.gb (gIn false (D.str x326) (D.tup [(D.str ("+" : Str)), (D.str ("-" : Str))]))))) (fun (s321 : (D × Int)) =>
N.s (N.ok ("plus" : Str)) fun name'3 =>
NS.s (
N.s (N.bind (N.ix words' s321.2) fun x327 => (N.gb (gEq (D.str x327) (D.str ("-" : Str))))) fun b329 => if b329 = true then
N.s (N.ok ("minus" : Str)) fun name'5 =>
NS.nx name'5
else
NS.nx name'3) fun s328 =>
N.s ((nr_product_at k) words' (s321.2 + 1)) fun other'1 =>
N.s (N.ok ((D.tup [(D.str s328), s321.1, other'1.1]), other'1.2)) fun found'2 =>
NS.nx found'2) fuelN found') fun s330 =>
NS.rt s330)
end
theorem vr_sum_at : ∀ k : Nat, VF (fr_atom_at k) (fun (a : ((List Str) × Int)) => nr_atom_at k a.1 a.2) (eCons (eLi false eS) (eOne eI)) (eTu (eCons eD (eOne eI))) ∧ VF (fr_power_at k) (fun (a : ((List Str) × Int)) => nr_power_at k a.1 a.2) (eCons (eLi false eS) (eOne eI)) (eTu (eCons eD (eOne eI))) ∧ VF (fr_product_at k) (fun (a : ((List Str) × Int)) => nr_product_at k a.1 a.2) (eCons (eLi false eS) (eOne eI)) (eTu (eCons eD (eOne eI))) ∧ VF (fr_sum_at k) (fun (a : ((List Str) × Int)) => nr_sum_at k a.1 a.2) (eCons (eLi false eS) (eOne eI)) (eTu (eCons eD (eOne eI))) := by
  intro k
  induction k with
  | zero => exact ⟨fun _ _ _ => True.intro, fun _ _ _ => True.intro, fun _ _ _ => True.intro, fun _ _ _ => True.intro⟩
  | succ k ih =>
    obtain ⟨I_atom_at, I_power_at, I_product_at, I_sum_at⟩ := ih
    refine ⟨?_, ?_, ?_, ?_⟩
    · rintro ⟨words', at'⟩ ds h
      show SatC _ (nr_atom_at (k + 1) words' at') _
      unfold nr_atom_at
      exact satC_of (L := fun (_ : Unit) => []) (G' := fun (_ : Unit) => [.any, .any, .any, .any, .any]) (f := fr_atom_at (k + 1)) (n := 2) (N := 5) (b := m_atom_at (fr_sum_at k)) rfl ((inil_cons inil_one) _ _ h) rfl ((vs_asg (ve_call (v := (n_word_at words' at')) (va_cons (u := N.ok (words', at')) (ve_varF zf_L) (va_one (ve_varF zf_I))) vf_word_at (fzl_cons (fz_z zf_L) (fzl_one (fz_z zf_I))) xt ) vg_n (fun word' => (vs_if (vt_z (vz_2 (v := (N.gb (gEq (D.str word') (D.str ("(" : Str))))) vz_var vz_s (o_eq fn_S fn_S) nx_gb2)) (vs_stop (vs_asg (ve_call (v := ((nr_sum_at k) words' (at' + 1))) (va_cons (u := N.ok (words', (at' + 1))) (ve_varF zf_L) (va_one (ve_z (vz_2 (v := N.ok (at' + 1)) vz_var vz_i o_add nx_p2) zf_I))) I_sum_at (fzl_cons (fz_z zf_L) (fzl_one (fz_z zf_I))) xt ) vg_n (fun found' => (vs_if (vt_e (ve_2 (v := (N.bind (n_word_at words' found'.2) fun x218 => (N.gb (gNe (D.str x218) (D.str (")" : Str)))))) (ve_call (v := (n_word_at words' found'.2)) (va_cons (u := N.ok (words', found'.2)) (ve_varF zf_L) (va_one (ve_z (vz_2 (v := N.ok found'.2) vz_var (vz_k (k := 1)) (o_ixT (pt_s pt_1)) nx_p2) zf_I))) vf_word_at (fzl_cons (fz_z zf_L) (fzl_one (fz_z zf_I))) xt ) (ve_z vz_s zf_S) (o_ne fn_S fn_S) zf_B nx_gb2)) (vs_stop (vs_raise xt)) (vs_doc (vs_retP (ve_tup (va_cons (u := N.ok (found'.1, (found'.2 + 1))) (ve_z (vz_2 (v := N.ok found'.1) vz_var (vz_k (k := 0)) (o_ixT pt_0) nx_p2) zf_D) (va_one (ve_z (vz_2 (v := N.ok (found'.2 + 1)) (vz_2 (v := N.ok found'.2) vz_var (vz_k (k := 1)) (o_ixT (pt_s pt_1)) nx_p2) vz_i o_add nx_p2) zf_I))) (fzl_cons (fz_z zf_D) (fzl_one (fz_z zf_I))) (len_cons len_one)) (fun a => a) (fun a d τ h s => h))))))) (vs_doc (vs_if (vt_e (ve_call (v := (n_is_name word')) (va_one (ve_varF zf_S)) vf_is_name (fzl_one (fz_z zf_S)) xt )) (vs_stop (vs_retP (ve_tup (va_cons (u := N.ok ((D.tup [(D.str ("name" : Str)), (D.str word')]), (at' + 1))) (ve_imp (w := N.ok (D.tup [(D.str ("name" : Str)), (D.str word')])) (ve_tup (va_cons (u := N.ok (("name" : Str), word')) (ve_z vz_s zf_S) (va_one (ve_varF zf_S))) (fzl_cons (fz_z zf_S) (fzl_one (fz_z zf_S))) (len_cons len_one)) _ (to_D (fx_T (fxl_cons fx_S (fxl_one fx_S))) zf_T)) (va_one (ve_z (vz_2 (v := N.ok (at' + 1)) vz_var vz_i o_add nx_p2) zf_I))) (fzl_cons (fz_z zf_D) (fzl_one (fz_z zf_I))) (len_cons len_one)) (fun a => a) (fun a d τ h s => h))) (vs_doc (vs_asg (ve_call (v := (n_number_of word')) (va_one (ve_varF zf_S)) vf_number_of (fzl_one (fz_z zf_S)) xt ) vg_n (fun a' => (vs_retP (ve_tup (va_cons (u := N.ok ((D.tup [(D.str ("number" : Str)), (D.int a'.1), (D.int a'.2)]), (at' + 1))) (ve_imp (w := N.ok (D.tup [(D.str ("number" : Str)), (D.int a'.1), (D.int a'.2)])) (ve_tup (va_cons (u := N.ok (("number" : Str), a'.1, a'.2)) (ve_z vz_s zf_S) (va_cons (u := N.ok (a'.1, a'.2)) (ve_z (vz_2 (v := N.ok a'.1) vz_var (vz_k (k := 0)) (o_ixT pt_0) nx_p2) zf_I) (va_one (ve_z (vz_2 (v := N.ok a'.2) vz_var (vz_k (k := 1)) (o_ixT (pt_s pt_1)) nx_p2) zf_I)))) (fzl_cons (fz_z zf_S) (fzl_cons (fz_z zf_I) (fzl_one (fz_z zf_I)))) (len_cons (len_cons len_one))) _ (to_D (fx_T (fxl_cons fx_S (fxl_cons fx_I (fxl_one fx_I)))) zf_T)) (va_one (ve_z (vz_2 (v := N.ok (at' + 1)) vz_var vz_i o_add nx_p2) zf_I))) (fzl_cons (fz_z zf_D) (fzl_one (fz_z zf_I))) (len_cons len_one)) (fun a => a) (fun a d τ h s => h)))))))))))
    · rintro ⟨words', at'⟩ ds h
      show SatC _ (nr_power_at (k + 1) words' at') _
      unfold nr_power_at
      exact satC_of (L := fun (_ : Unit) => []) (G' := fun (_ : Unit) => [.any, .any, .any, .any]) (f := fr_power_at (k + 1)) (n := 2) (N := 4) (b := m_power_at (fr_atom_at k)) rfl ((inil_cons inil_one) _ _ h) rfl ((vs_asg (ve_call (v := ((nr_atom_at k) words' at')) (va_cons (u := N.ok (words', at')) (ve_varF zf_L) (va_one (ve_varF zf_I))) I_atom_at (fzl_cons (fz_z zf_L) (fzl_one (fz_z zf_I))) xt ) vg_n (fun found' => (vs_if (vt_e (ve_2 (v := (N.bind (n_word_at words' found'.2) fun x308 => (N.gb (gNe (D.str x308) (D.str ("^" : Str)))))) (ve_call (v := (n_word_at words' found'.2)) (va_cons (u := N.ok (words', found'.2)) (ve_varF zf_L) (va_one (ve_z (vz_2 (v := N.ok found'.2) vz_var (vz_k (k := 1)) (o_ixT (pt_s pt_1)) nx_p2) zf_I))) vf_word_at (fzl_cons (fz_z zf_L) (fzl_one (fz_z zf_I))) xt ) (ve_z vz_s zf_S) (o_ne fn_S fn_S) zf_B nx_gb2)) (vs_stop (vs_retP ve_mv (fun a => a) (fun a d τ h s => h))) (vs_doc (vs_asg (ve_call (v := (n_word_at words' (found'.2 + 1))) (va_cons (u := N.ok (words', (found'.2 + 1))) (ve_varF zf_L) (va_one (ve_z (vz_2 (v := N.ok (found'.2 + 1)) (vz_2 (v := N.ok found'.2) vz_var (vz_k (k := 1)) (o_ixT (pt_s pt_1)) nx_p2) vz_i o_add nx_p2) zf_I))) vf_word_at (fzl_cons (fz_z zf_L) (fzl_one (fz_z zf_I))) xt ) vg_n (fun many' => (vs_ifP (vt_e (ve_kdIn (u := N.ok (kdInN true kn_POWERS many')) kt_POWERS (ve_varF zf_S))) (vs_stop (vs_raise xt)) (vs_doc (vs_ret (ve_tup (va_cons (u := (N.bind (N.bind (N.bind (kdIxN kn_POWERS many') fun x309 => N.ok (("power" : Str), found'.1, x309)) fun x312 => N.ok (D.tup [(D.str x312.1), x312.2.1, (D.int x312.2.2)])) fun x314 => N.ok (x314, (found'.2 + 2)))) (ve_imp (w := (N.bind (N.bind (kdIxN kn_POWERS many') fun x309 => N.ok (("power" : Str), found'.1, x309)) fun x312 => N.ok (D.tup [(D.str x312.1), x312.2.1, (D.int x312.2.2)]))) (ve_tup (va_cons (u := (N.bind (kdIxN kn_POWERS many') fun x311 => N.ok (("power" : Str), found'.1, x311))) (ve_z vz_s zf_S) (va_cons (u := (N.bind (kdIxN kn_POWERS many') fun x310 => N.ok (found'.1, x310))) (ve_z (vz_2 (v := N.ok found'.1) vz_var (vz_k (k := 0)) (o_ixT pt_0) nx_p2) zf_D) (va_one (ve_kdIx (u := (kdIxN kn_POWERS many')) kt_POWERS (ve_varF zf_S))))) (fzl_cons (fz_z zf_S) (fzl_cons (fz_z zf_D) (fzl_one (fz_z zf_I)))) (len_cons (len_cons len_one))) _ (to_D (fx_T (fxl_cons fx_S (fxl_cons fx_D (fxl_one fx_I)))) zf_T)) (va_one (ve_z (vz_2 (v := N.ok (found'.2 + 2)) (vz_2 (v := N.ok found'.2) vz_var (vz_k (k := 1)) (o_ixT (pt_s pt_1)) nx_p2) vz_i o_add nx_p2) zf_I))) (fzl_cons (fz_z zf_D) (fzl_one (fz_z zf_I))) (len_cons len_one)) (fun a => a) (fun a d τ h s => h)))))))))))
    · rintro ⟨words', at'⟩ ds h
      show SatC _ (nr_product_at (k + 1) words' at') _
      unfold nr_product_at
      exact satC_of (L := fun (_ : Unit) => []) (G' := fun (_ : Unit) => [.any, .any, .any, .any]) (f := fr_product_at (k + 1)) (n := 2) (N := 4) (b := m_product_at (fr_power_at k)) rfl ((inil_cons inil_one) _ _ h) rfl ((vs_asg (ve_call (v := ((nr_power_at k) words' at')) (va_cons (u := N.ok (words', at')) (ve_varF zf_L) (va_one (ve_varF zf_I))) I_power_at (fzl_cons (fz_z zf_L) (fzl_one (fz_z zf_I))) xt ) vg_n (fun found' => (vs_while (F := fuelN) (GI := fun (y : (D × Int)) => [.val (eLi false eS) words', .val eI at', .val (eTu (eCons eD (eOne eI))) y, .any]) (GC := fun (y : (D × Int)) => [.val (eLi false eS) words', .val eI at', .val (eTu (eCons eD (eOne eI))) y, .any]) (s0 := found') ent_id (fun s317 => (vt_ent (vt_e (ve_2 (v := (N.bind (n_word_at words' s317.2) fun x319 => (N.gb (gEq (D.str x319) (D.str ("*" : Str)))))) (ve_call (v := (n_word_at words' s317.2)) (va_cons (u := N.ok (words', s317.2)) (ve_varF zf_L) (va_one (ve_z (vz_2 (v := N.ok s317.2) vz_var (vz_k (k := 1)) (o_ixT (pt_s pt_1)) nx_p2) zf_I))) vf_word_at (fzl_cons (fz_z zf_L) (fzl_one (fz_z zf_I))) xt ) (ve_z vz_s zf_S) (o_eq fn_S fn_S) zf_B nx_gb2)) ent_id)) (fun s317 => (vs_asg (ve_call (v := ((nr_power_at k) words' (s317.2 + 1))) (va_cons (u := N.ok (words', (s317.2 + 1))) (ve_varF zf_L) (va_one (ve_z (vz_2 (v := N.ok (s317.2 + 1)) (vz_2 (v := N.ok s317.2) vz_var (vz_k (k := 1)) (o_ixT (pt_s pt_1)) nx_p2) vz_i o_add nx_p2) zf_I))) I_power_at (fzl_cons (fz_z zf_L) (fzl_one (fz_z zf_I))) xt ) vg_n (fun other'1 => (vs_one (vs_asg (ve_tup (va_cons (u := N.ok ((D.tup [(D.str ("times" : Str)), s317.1, other'1.1]), other'1.2)) (ve_imp (w := N.ok (D.tup [(D.str ("times" : Str)), s317.1, other'1.1])) (ve_tup (va_cons (u := N.ok (("times" : Str), s317.1, other'1.1)) (ve_z vz_s zf_S) (va_cons (u := N.ok (s317.1, other'1.1)) (ve_z (vz_2 (v := N.ok s317.1) vz_var (vz_k (k := 0)) (o_ixT pt_0) nx_p2) zf_D) (va_one (ve_z (vz_2 (v := N.ok other'1.1) vz_var (vz_k (k := 0)) (o_ixT pt_0) nx_p2) zf_D)))) (fzl_cons (fz_z zf_S) (fzl_cons (fz_z zf_D) (fzl_one (fz_z zf_D)))) (len_cons (len_cons len_one))) _ (to_D (fx_T (fxl_cons fx_S (fxl_cons fx_D (fxl_one fx_D)))) zf_T)) (va_one (ve_z (vz_2 (v := N.ok other'1.2) vz_var (vz_k (k := 1)) (o_ixT (pt_s pt_1)) nx_p2) zf_I))) (fzl_cons (fz_z zf_D) (fzl_one (fz_z zf_I))) (len_cons len_one)) vg_n (fun found'2 => (vs_end (ent_cons se_id (ent_cons se_id (ent_cons se_id (ent_cons se_any ent_nil))))))))))) (fun _ => ent_id) (fun s320 => (vs_retP ve_mv (fun a => a) (fun a d τ h s => h)))))))
    · rintro ⟨words', at'⟩ ds h
      show SatC _ (nr_sum_at (k + 1) words' at') _
      unfold nr_sum_at
      exact satC_of (L := fun (_ : Unit) => []) (G' := fun (_ : Unit) => [.any, .any, .any, .any, .any]) (f := fr_sum_at (k + 1)) (n := 2) (N := 5) (b := m_sum_at (fr_product_at k)) rfl ((inil_cons inil_one) _ _ h) rfl ((vs_asg (ve_call (v := ((nr_product_at k) words' at')) (va_cons (u := N.ok (words', at')) (ve_varF zf_L) (va_one (ve_varF zf_I))) I_product_at (fzl_cons (fz_z zf_L) (fzl_one (fz_z zf_I))) xt ) vg_n (fun found' => (vs_while (F := fuelN) (GI := fun (y : (D × Int)) => [.val (eLi false eS) words', .val eI at', .val (eTu (eCons eD (eOne eI))) y, .any, .any]) (GC := fun (y : (D × Int)) => [.val (eLi false eS) words', .val eI at', .val (eTu (eCons eD (eOne eI))) y, .any, .any]) (s0 := found') ent_id (fun s321 => (vt_ent (vt_e (ve_2 (v := (N.bind (n_word_at words' s321.2) fun x326 => (N.gb (gIn false (D.str x326) (D.tup [(D.str ("+" : Str)), (D.str ("-" : Str))]))))) (ve_call (v := (n_word_at words' s321.2)) (va_cons (u := N.ok (words', s321.2)) (ve_varF zf_L) (va_one (ve_z (vz_2 (v := N.ok s321.2) vz_var (vz_k (k := 1)) (o_ixT (pt_s pt_1)) nx_p2) zf_I))) vf_word_at (fzl_cons (fz_z zf_L) (fzl_one (fz_z zf_I))) xt ) (ve_tup (va_cons (u := N.ok (("+" : Str), ("-" : Str))) (ve_z vz_s zf_S) (va_one (ve_z vz_s zf_S))) (fzl_cons (fz_z zf_S) (fzl_one (fz_z zf_S))) (len_cons len_one)) (o_in (neg := false) fx_S (fx_T (fxl_cons fx_S (fxl_one fx_S)))) zf_B nx_gb2)) ent_id)) (fun s321 => (vs_asg (ve_z vz_s zf_S) vg_n (fun name'3 => (vs_ifJ (GJ := fun (y : Str) => [.val (eLi false eS) words', .val eI at', .val (eTu (eCons eD (eOne eI))) s321, .val eS y, .any]) (vt_z (vz_2 (v := (N.bind (N.ix words' s321.2) fun x327 => (N.gb (gEq (D.str x327) (D.str ("-" : Str)))))) (vz_2 (v := (N.ix words' s321.2)) vz_var (vz_2 (v := N.ok s321.2) vz_var (vz_k (k := 1)) (o_ixT (pt_s pt_1)) nx_p2) o_ix nx_ix) vz_s (o_eq fn_S fn_S) nx_gb2)) (vs_one (vs_asg (ve_z vz_s zf_S) vg_n (fun name'5 => (vs_end ent_id)))) (vs_end ent_id) (fun s328 => (vs_asg (ve_call (v := ((nr_product_at k) words' (s321.2 + 1))) (va_cons (u := N.ok (words', (s321.2 + 1))) (ve_varF zf_L) (va_one (ve_z (vz_2 (v := N.ok (s321.2 + 1)) (vz_2 (v := N.ok s321.2) vz_var (vz_k (k := 1)) (o_ixT (pt_s pt_1)) nx_p2) vz_i o_add nx_p2) zf_I))) I_product_at (fzl_cons (fz_z zf_L) (fzl_one (fz_z zf_I))) xt ) vg_n (fun other'1 => (vs_one (vs_asg (ve_tup (va_cons (u := N.ok ((D.tup [(D.str s328), s321.1, other'1.1]), other'1.2)) (ve_imp (w := N.ok (D.tup [(D.str s328), s321.1, other'1.1])) (ve_tup (va_cons (u := N.ok (s328, s321.1, other'1.1)) (ve_varF zf_S) (va_cons (u := N.ok (s321.1, other'1.1)) (ve_z (vz_2 (v := N.ok s321.1) vz_var (vz_k (k := 0)) (o_ixT pt_0) nx_p2) zf_D) (va_one (ve_z (vz_2 (v := N.ok other'1.1) vz_var (vz_k (k := 0)) (o_ixT pt_0) nx_p2) zf_D)))) (fzl_cons (fz_z zf_S) (fzl_cons (fz_z zf_D) (fzl_one (fz_z zf_D)))) (len_cons (len_cons len_one))) _ (to_D (fx_T (fxl_cons fx_S (fxl_cons fx_D (fxl_one fx_D)))) zf_T)) (va_one (ve_z (vz_2 (v := N.ok other'1.2) vz_var (vz_k (k := 1)) (o_ixT (pt_s pt_1)) nx_p2) zf_I))) (fzl_cons (fz_z zf_D) (fzl_one (fz_z zf_I))) (len_cons len_one)) vg_n (fun found'2 => (vs_end (ent_cons se_id (ent_cons se_id (ent_cons se_id (ent_cons se_any (ent_cons se_any ent_nil)))))))))))))))) (fun _ => ent_id) (fun s330 => (vs_retP ve_mv (fun a => a) (fun a d τ h s => h)))))))
@[irreducible] noncomputable def n_sum_at (x0 : (List Str)) (x1 : Int) : N (D × Int) := nr_sum_at 68 x0 x1
theorem vf_sum_at : VF f_sum_at (fun (a : ((List Str) × Int)) => n_sum_at a.1 a.2) (eCons (eLi false eS) (eOne eI)) (eTu (eCons eD (eOne eI))) := by
  unfold n_sum_at
  exact (vr_sum_at 68).2.2.2
@[irreducible] noncomputable def n_tree_of (words' : (List Str)) : N D := NS.f (σ := Unit) (κ := Unit) (
if (decide (120 < ((words').length : Int))) = true then
NS.ex "NoRow"
else
N.s (n_look_at_brackets words') fun _ =>
N.s (n_sum_at words' 0) fun found' =>
if (!decide (found'.2 = ((words').length : Int))) = true then
NS.ex "NoRow"
else
NS.rt found'.1)
theorem vf_tree_of : VF f_tree_of (fun (a : (List Str)) => n_tree_of a) (eOne (eLi false eS)) eD := by
  rintro words' ds h
  show SatC _ (n_tree_of words') _
  unfold n_tree_of
  exact satC_of (L := fun (_ : Unit) => []) (G' := fun (_ : Unit) => [.any, .any]) (n := 1) (N := 2) (b := m_tree_of) rfl (inil_one _ _ h) rfl ((vs_ifP (vt_z (vz_2 (v := N.ok (decide (120 < ((words').length : Int)))) (vz_call (v := N.ok ((words').length : Int)) (vza_one vz_var) c_len nx_p1 ) (vz_c (show eI 120 k_LONGEST from rfl)) o_gt nx_p2)) (vs_stop (vs_raise xt)) (vs_doc (vs_drop (ve_call (v := (n_look_at_brackets words')) (va_one (ve_varF zf_L)) vf_look_at_brackets (fzl_one (fz_z zf_L)) xt ) (vs_asg (ve_call (v := (n_sum_at words' 0)) (va_cons (u := N.ok (words', 0)) (ve_varF zf_L) (va_one (ve_z vz_i zf_I))) vf_sum_at (fzl_cons (fz_z zf_L) (fzl_one (fz_z zf_I))) xt ) vg_n (fun found' => (vs_ifP (vt_z (vz_2 (v := N.ok (!decide (found'.2 = ((words').length : Int)))) (vz_2 (v := N.ok found'.2) vz_var (vz_k (k := 1)) (o_ixT (pt_s pt_1)) nx_p2) (vz_call (v := N.ok ((words').length : Int)) (vza_one vz_var) c_len nx_p1 ) o_neI nx_p2)) (vs_stop (vs_raise xt)) (vs_doc (vs_retP (ve_z (vz_2 (v := N.ok found'.1) vz_var (vz_k (k := 0)) (o_ixT pt_0) nx_p2) zf_D) (fun a => a) (fun a d τ h s => h))))))))))
@[irreducible] noncomputable def n__law_whole (found' : D) : N Bool := NS.f (σ := Unit) (κ := Unit) (
N.s (N.and (N.gb (gIsi [found', .ty "int"])) (N.not (N.gb (gIsi [found', .ty "bool"])))) fun x343 => NS.rt x343)
theorem vf__law_whole : VF f__law_whole (fun (a : D) => n__law_whole a) (eOne eD) eB := by
  rintro found' ds h
  show SatC _ (n__law_whole found') _
  unfold n__law_whole
  exact satC_of (L := fun (_ : Unit) => []) (G' := fun (_ : Unit) => [.any]) (n := 1) (N := 1) (b := m__law_whole) rfl (inil_one _ _ h) rfl ((vs_ret (ve_and (ve_z (vz_call (v := (N.gb (gIsi [found', .ty "int"]))) (vza_cons (u := N.ok (found', ())) vz_var (vza_one vz_ty)) c_isiD nx_gb1 ) zf_B) (ve_not (ve_z (vz_call (v := (N.gb (gIsi [found', .ty "bool"]))) (vza_cons (u := N.ok (found', ())) vz_var (vza_one vz_ty)) c_isiD nx_gb1 ) zf_B)) ent_id) (fun a => a) (fun a d τ h s => h)))
noncomputable def nr__law_alike : Nat → D → D → N Bool
  | 0, _, _ => .bad
  | k + 1, found', due' => NS.f (σ := Unit) (κ := Unit) (
N.s (N.or (N.not (N.gb (gIsi [found', .ty "tuple"]))) (N.or (N.bind (N.gi (gLen [found'])) fun x331 => N.bind (N.gi (gLen [due'])) fun x332 => N.ok (!decide (x331 = x332))) (N.bind (N.gix found' 0) fun x333 => N.bind (N.gix due' 0) fun x334 => (N.gb (gNe x333 x334))))) fun b368 => if b368 = true then
NS.rt false
else
N.s (N.bind (N.gix due' 0) fun x335 => (N.gb (gEq x335 (D.str ("name" : Str))))) fun b367 => if b367 = true then
N.s (N.and (N.bind (N.gix found' 1) fun x337 => (N.gb (gIsi [x337, .ty "str"]))) (N.bind (N.gix found' 1) fun x338 => N.bind (N.gix due' 1) fun x339 => (N.gb (gEq x338 x339)))) fun x340 => NS.rt x340
else
N.s (N.bind (N.gix due' 0) fun x341 => (N.gb (gEq x341 (D.str ("number" : Str))))) fun b366 => if b366 = true then
N.s (N.and (N.bind (N.gix found' 1) fun x344 => (n__law_whole x344)) (N.and (N.bind (N.gix found' 2) fun x345 => (n__law_whole x345)) (N.gb (gEq found' due')))) fun x346 => NS.rt x346
else
N.s (N.bind (N.gix due' 0) fun x347 => (N.gb (gEq x347 (D.str ("power" : Str))))) fun b365 => if b365 = true then
N.s (N.and (N.bind (N.gix found' 2) fun x348 => (n__law_whole x348)) (N.and (N.bind (N.gix found' 2) fun x349 => N.bind (N.gix due' 2) fun x350 => (N.gb (gEq x349 x350))) (N.bind (N.gix found' 1) fun x351 => N.bind (N.gix due' 1) fun x352 => ((nr__law_alike k) x351 x352)))) fun x355 => NS.rt x355
else
N.s (N.and (N.bind (N.gix found' 1) fun x356 => N.bind (N.gix due' 1) fun x357 => ((nr__law_alike k) x356 x357)) (N.bind (N.gix found' 2) fun x360 => N.bind (N.gix due' 2) fun x361 => ((nr__law_alike k) x360 x361))) fun x364 => NS.rt x364)
theorem vr__law_alike : ∀ k : Nat, VF (fr__law_alike k) (fun (a : (D × D)) => nr__law_alike k a.1 a.2) (eCons eD (eOne eD)) eB := by
  intro k
  induction k with
  | zero => exact fun _ _ _ => True.intro
  | succ k ih =>
    have I__law_alike := ih
    refine ?_
    · rintro ⟨found', due'⟩ ds h
      show SatC _ (nr__law_alike (k + 1) found' due') _
      unfold nr__law_alike
      exact satC_of (L := fun (_ : Unit) => []) (G' := fun (_ : Unit) => [.any, .any]) (f := fr__law_alike (k + 1)) (n := 2) (N := 2) (b := m__law_alike (fr__law_alike k)) rfl ((inil_cons inil_one) _ _ h) rfl ((vs_if (vt_or (vt_not (vt_z (vz_call (v := (N.gb (gIsi [found', .ty "tuple"]))) (vza_cons (u := N.ok (found', ())) vz_var (vza_one vz_ty)) c_isiD nx_gb1 ))) (vt_or (vt_z (vz_2 (v := (N.bind (N.gi (gLen [found'])) fun x331 => N.bind (N.gi (gLen [due'])) fun x332 => N.ok (!decide (x331 = x332)))) (vz_call (v := (N.gi (gLen [found']))) (vza_one vz_var) c_lenD nx_gi1 ) (vz_call (v := (N.gi (gLen [due']))) (vza_one vz_var) c_lenD nx_gi1 ) o_neI nx_p2)) (vt_z (vz_2 (v := (N.bind (N.gix found' 0) fun x333 => N.bind (N.gix due' 0) fun x334 => (N.gb (gNe x333 x334)))) (vz_2 (v := (N.gix found' 0)) vz_var vz_i o_gix nx_gix) (vz_2 (v := (N.gix due' 0)) vz_var vz_i o_gix nx_gix) (o_ne fn_D fn_D) nx_gb2)) ent_id) ent_id) (vs_stop (vs_retP (ve_z vz_b zf_B) (fun a => a) (fun a d τ h s => h))) (vs_doc (vs_if (vt_z (vz_2 (v := (N.bind (N.gix due' 0) fun x335 => (N.gb (gEq x335 (D.str ("name" : Str)))))) (vz_2 (v := (N.gix due' 0)) vz_var vz_i o_gix nx_gix) vz_s (o_eq fn_D fn_S) nx_gb2)) (vs_stop (vs_ret (ve_and (ve_z (vz_call (v := (N.bind (N.gix found' 1) fun x337 => (N.gb (gIsi [x337, .ty "str"])))) (vza_cons (u := (N.bind (N.gix found' 1) fun x336 => N.ok (x336, ()))) (vz_2 (v := (N.gix found' 1)) vz_var vz_i o_gix nx_gix) (vza_one vz_ty)) c_isiD nx_gb1 ) zf_B) (ve_z (vz_2 (v := (N.bind (N.gix found' 1) fun x338 => N.bind (N.gix due' 1) fun x339 => (N.gb (gEq x338 x339)))) (vz_2 (v := (N.gix found' 1)) vz_var vz_i o_gix nx_gix) (vz_2 (v := (N.gix due' 1)) vz_var vz_i o_gix nx_gix) (o_eq fn_D fn_D) nx_gb2) zf_B) ent_id) (fun a => a) (fun a d τ h s => h))) (vs_doc (vs_if (vt_z (vz_2 (v := (N.bind (N.gix due' 0) fun x341 => (N.gb (gEq x341 (D.str ("number" : Str)))))) (vz_2 (v := (N.gix due' 0)) vz_var vz_i o_gix nx_gix) vz_s (o_eq fn_D fn_S) nx_gb2)) (vs_stop (vs_ret (ve_and (ve_call (v := (N.bind (N.gix found' 1) fun x344 => (n__law_whole x344))) (va_one (ve_z (vz_2 (v := (N.gix found' 1)) vz_var vz_i o_gix nx_gix) zf_D)) vf__law_whole (fzl_one (fz_z zf_D)) xt ) (ve_and (ve_call (v := (N.bind (N.gix found' 2) fun x345 => (n__law_whole x345))) (va_one (ve_z (vz_2 (v := (N.gix found' 2)) vz_var vz_i o_gix nx_gix) zf_D)) vf__law_whole (fzl_one (fz_z zf_D)) xt ) (ve_z (vz_2 (v := (N.gb (gEq found' due'))) vz_var vz_var (o_eq fn_D fn_D) nx_gb2) zf_B) ent_id) ent_id) (fun a => a) (fun a d τ h s => h))) (vs_doc (vs_if (vt_z (vz_2 (v := (N.bind (N.gix due' 0) fun x347 => (N.gb (gEq x347 (D.str ("power" : Str)))))) (vz_2 (v := (N.gix due' 0)) vz_var vz_i o_gix nx_gix) vz_s (o_eq fn_D fn_S) nx_gb2)) (vs_stop (vs_ret (ve_and (ve_call (v := (N.bind (N.gix found' 2) fun x348 => (n__law_whole x348))) (va_one (ve_z (vz_2 (v := (N.gix found' 2)) vz_var vz_i o_gix nx_gix) zf_D)) vf__law_whole (fzl_one (fz_z zf_D)) xt ) (ve_and (ve_z (vz_2 (v := (N.bind (N.gix found' 2) fun x349 => N.bind (N.gix due' 2) fun x350 => (N.gb (gEq x349 x350)))) (vz_2 (v := (N.gix found' 2)) vz_var vz_i o_gix nx_gix) (vz_2 (v := (N.gix due' 2)) vz_var vz_i o_gix nx_gix) (o_eq fn_D fn_D) nx_gb2) zf_B) (ve_call (v := (N.bind (N.gix found' 1) fun x351 => N.bind (N.gix due' 1) fun x352 => ((nr__law_alike k) x351 x352))) (va_cons (u := (N.bind (N.gix found' 1) fun x353 => N.bind (N.gix due' 1) fun x354 => N.ok (x353, x354))) (ve_z (vz_2 (v := (N.gix found' 1)) vz_var vz_i o_gix nx_gix) zf_D) (va_one (ve_z (vz_2 (v := (N.gix due' 1)) vz_var vz_i o_gix nx_gix) zf_D))) I__law_alike (fzl_cons (fz_z zf_D) (fzl_one (fz_z zf_D))) xt ) ent_id) ent_id) (fun a => a) (fun a d τ h s => h))) (vs_doc (vs_ret (ve_and (ve_call (v := (N.bind (N.gix found' 1) fun x356 => N.bind (N.gix due' 1) fun x357 => ((nr__law_alike k) x356 x357))) (va_cons (u := (N.bind (N.gix found' 1) fun x358 => N.bind (N.gix due' 1) fun x359 => N.ok (x358, x359))) (ve_z (vz_2 (v := (N.gix found' 1)) vz_var vz_i o_gix nx_gix) zf_D) (va_one (ve_z (vz_2 (v := (N.gix due' 1)) vz_var vz_i o_gix nx_gix) zf_D))) I__law_alike (fzl_cons (fz_z zf_D) (fzl_one (fz_z zf_D))) xt ) (ve_call (v := (N.bind (N.gix found' 2) fun x360 => N.bind (N.gix due' 2) fun x361 => ((nr__law_alike k) x360 x361))) (va_cons (u := (N.bind (N.gix found' 2) fun x362 => N.bind (N.gix due' 2) fun x363 => N.ok (x362, x363))) (ve_z (vz_2 (v := (N.gix found' 2)) vz_var vz_i o_gix nx_gix) zf_D) (va_one (ve_z (vz_2 (v := (N.gix due' 2)) vz_var vz_i o_gix nx_gix) zf_D))) I__law_alike (fzl_cons (fz_z zf_D) (fzl_one (fz_z zf_D))) xt ) ent_id) (fun a => a) (fun a d τ h s => h)))))))))))
@[irreducible] noncomputable def n__law_alike (x0 : D) (x1 : D) : N Bool := nr__law_alike 70 x0 x1
theorem vf__law_alike : VF f__law_alike (fun (a : (D × D)) => n__law_alike a.1 a.2) (eCons eD (eOne eD)) eB := by
  unfold n__law_alike
  exact (vr__law_alike 70)
@[irreducible] noncomputable def n__law_refused (words' : (List Str)) : N Bool := NS.f (σ := Unit) (κ := Unit) (
NS.s (
NS.tr (
N.s (n_tree_of words') fun _ =>
NS.nx false) sub_BoxError fun c376 =>
N.s (N.o (is_NoRow c376)) fun heard'1 =>
NS.nx heard'1) fun s377 =>
NS.rt s377)
theorem vf__law_refused : VF f__law_refused (fun (a : (List Str)) => n__law_refused a) (eOne (eLi false eS)) eB := by
  rintro words' ds h
  show SatC _ (n__law_refused words') _
  unfold n__law_refused
  exact satC_of (L := fun (_ : Unit) => []) (G' := fun (_ : Unit) => [.any, .any, .any]) (n := 1) (N := 3) (b := m__law_refused) rfl (inil_one _ _ h) rfl ((vs_asgP (ve_z vz_b zf_B) vg_n (vs_tryAs (i := 2) (GX := [.val (eLi false eS) words', .val eB false, .any]) (GS := fun (y : Bool) => [.val (eLi false eS) words', .val eB y, .any]) (GJ := fun (y : Bool) => [.val (eLi false eS) words', .val eB y, .any]) (Nat.le_of_ble_eq_true rfl) (vs_one (vs_drop (ve_call (v := (n_tree_of words')) (va_one (ve_varF zf_L)) vf_tree_of (fzl_one (fz_z zf_L)) (by exact xg (GX := [.val (eLi false eS) words', .val eB false, .any]) ent_id) ) (vs_end ent_id))) (fun c376 => (vs_one (vs_asg ve_is vg_n (fun heard'1 => (vs_end ent_id))))) (fun _ => ent_id) (fun _ => ent_id) xt (fun s377 => (vs_retP ve_mv (fun a => a) (fun a d τ h s => h))))))
@[irreducible] noncomputable def n__law_no_atom (cell' : Int) : N Str := NS.f (σ := Unit) (κ := Unit) (
N.s (N.ok [("grid" : Str), ("let" : Str), ("in" : Str), ("islands" : Str), ("abcdefghi" : Str), ("1234567890" : Str), ("2/4" : Str), ("-0" : Str), ("007" : Str), ("1/1" : Str), ("1/1234567890" : Str)]) fun some' =>
N.s (N.cat some' [("x2" : Str), ("X" : Str), ("" : Str), ("0/3" : Str), ("--1" : Str)]) fun some'1 =>
N.s (N.bind (N.mod cell' 16) fun x403 => (N.ix some'1 x403)) fun x404 => NS.rt x404)
theorem vf__law_no_atom : VF f__law_no_atom (fun (a : Int) => n__law_no_atom a) (eOne eI) eS := by
  rintro cell' ds h
  show SatC _ (n__law_no_atom cell') _
  unfold n__law_no_atom
  exact satC_of (L := fun (_ : Unit) => []) (G' := fun (_ : Unit) => [.any, .any]) (n := 1) (N := 2) (b := m__law_no_atom) rfl (inil_one _ _ h) rfl ((vs_asg (ve_lst (vl_cons (u := N.ok [("grid" : Str), ("let" : Str), ("in" : Str), ("islands" : Str), ("abcdefghi" : Str), ("1234567890" : Str), ("2/4" : Str), ("-0" : Str), ("007" : Str), ("1/1" : Str), ("1/1234567890" : Str)]) (ve_z vz_s zf_S) (vl_cons (u := N.ok [("let" : Str), ("in" : Str), ("islands" : Str), ("abcdefghi" : Str), ("1234567890" : Str), ("2/4" : Str), ("-0" : Str), ("007" : Str), ("1/1" : Str), ("1/1234567890" : Str)]) (ve_z vz_s zf_S) (vl_cons (u := N.ok [("in" : Str), ("islands" : Str), ("abcdefghi" : Str), ("1234567890" : Str), ("2/4" : Str), ("-0" : Str), ("007" : Str), ("1/1" : Str), ("1/1234567890" : Str)]) (ve_z vz_s zf_S) (vl_cons (u := N.ok [("islands" : Str), ("abcdefghi" : Str), ("1234567890" : Str), ("2/4" : Str), ("-0" : Str), ("007" : Str), ("1/1" : Str), ("1/1234567890" : Str)]) (ve_z vz_s zf_S) (vl_cons (u := N.ok [("abcdefghi" : Str), ("1234567890" : Str), ("2/4" : Str), ("-0" : Str), ("007" : Str), ("1/1" : Str), ("1/1234567890" : Str)]) (ve_z vz_s zf_S) (vl_cons (u := N.ok [("1234567890" : Str), ("2/4" : Str), ("-0" : Str), ("007" : Str), ("1/1" : Str), ("1/1234567890" : Str)]) (ve_z vz_s zf_S) (vl_cons (u := N.ok [("2/4" : Str), ("-0" : Str), ("007" : Str), ("1/1" : Str), ("1/1234567890" : Str)]) (ve_z vz_s zf_S) (vl_cons (u := N.ok [("-0" : Str), ("007" : Str), ("1/1" : Str), ("1/1234567890" : Str)]) (ve_z vz_s zf_S) (vl_cons (u := N.ok [("007" : Str), ("1/1" : Str), ("1/1234567890" : Str)]) (ve_z vz_s zf_S) (vl_cons (u := N.ok [("1/1" : Str), ("1/1234567890" : Str)]) (ve_z vz_s zf_S) (vl_cons (u := N.ok [("1/1234567890" : Str)]) (ve_z vz_s zf_S) vl_nil)))))))))))) vg_n (fun some' => (vs_asg (ve_cat (u := (N.cat some' [("x2" : Str), ("X" : Str), ("" : Str), ("0/3" : Str), ("--1" : Str)])) (ve_var (fz_L (fz_z zf_S))) (ve_lst (vl_cons (u := N.ok [("x2" : Str), ("X" : Str), ("" : Str), ("0/3" : Str), ("--1" : Str)]) (ve_z vz_s zf_S) (vl_cons (u := N.ok [("X" : Str), ("" : Str), ("0/3" : Str), ("--1" : Str)]) (ve_z vz_s zf_S) (vl_cons (u := N.ok [("" : Str), ("0/3" : Str), ("--1" : Str)]) (ve_z vz_s zf_S) (vl_cons (u := N.ok [("0/3" : Str), ("--1" : Str)]) (ve_z vz_s zf_S) (vl_cons (u := N.ok [("--1" : Str)]) (ve_z vz_s zf_S) vl_nil)))))) (fz_z zf_L) (fz_L (fz_z zf_S))) vg_n (fun some'1 => (vs_ret (ve_z (vz_2 (v := (N.bind (N.mod cell' 16) fun x403 => (N.ix some'1 x403))) vz_var (vz_2 (v := (N.mod cell' 16)) vz_var vz_i o_mod nx_mod) o_ix nx_ix) zf_S) (fun a => a) (fun a d τ h s => h)))))))
@[irreducible] noncomputable def n__law_edges (cell' : Int) : N Bool := NS.f (σ := Unit) (κ := Unit) (
N.s (N.bind (N.mod cell' 5) fun x435 => N.ok (14 + x435)) fun depth' =>
N.s (N.bind (N.bind (N.rep [("(" : Str)] depth') fun x436 => (N.cat x436 [("z" : Str)])) fun x437 => N.bind (N.rep [(")" : Str)] depth') fun x438 => (N.cat x437 x438)) fun words' =>
NS.s (
if (decide (depth' < 17)) = true then
N.s (N.not (N.bind (n_tree_of words') fun x443 => (n__law_alike x443 (D.tup [(D.str ("name" : Str)), (D.str ("z" : Str))])))) fun b445 => if b445 = true then
NS.rt false
else
NS.nx ()
else
N.s (N.not (n__law_refused words')) fun b446 => if b446 = true then
NS.rt false
else
NS.nx ()) fun s447 =>
N.s (N.bind (N.bind (N.div cell' 5) fun x448 => (N.mod x448 5)) fun x449 => N.ok (58 + x449)) fun many' =>
N.s (N.ok (D.tup [(D.str ("name" : Str)), (D.str ("q" : Str))])) fun tree' =>
N.s (N.range (many' - 1)) fun x457 =>
NS.s (forN (fun (k' : Int) (s450 : D) =>
N.s (N.ok (D.tup [(D.str ("plus" : Str)), s450, (D.tup [(D.str ("name" : Str)), (D.str ("q" : Str))])])) fun tree'2 =>
NS.nx tree'2) x457 tree') fun s451 =>
N.s (N.bind (N.rep [("+" : Str), ("q" : Str)] (many' - 1)) fun x452 => (N.cat [("q" : Str)] x452)) fun words'1 =>
if (decide (many' < 61)) = true then
N.s (N.bind (n_tree_of words'1) fun x453 => (n__law_alike x453 s451)) fun x455 => NS.rt x455
else
N.s (n__law_refused words'1) fun x456 => NS.rt x456)
theorem vf__law_edges : VF f__law_edges (fun (a : Int) => n__law_edges a) (eOne eI) eB := by
  rintro cell' ds h
  show SatC _ (n__law_edges cell') _
  unfold n__law_edges
  exact satC_of (L := fun (_ : Unit) => []) (G' := fun (_ : Unit) => [.any, .any, .any, .any, .any, .any]) (n := 1) (N := 6) (b := m__law_edges) rfl (inil_one _ _ h) rfl ((vs_asg (ve_z (vz_2 (v := (N.bind (N.mod cell' 5) fun x435 => N.ok (14 + x435))) vz_i (vz_2 (v := (N.mod cell' 5)) vz_var vz_i o_mod nx_mod) o_add nx_p2) zf_I) vg_n (fun depth' => (vs_asg (ve_cat (u := (N.bind (N.bind (N.rep [("(" : Str)] depth') fun x436 => (N.cat x436 [("z" : Str)])) fun x437 => N.bind (N.rep [(")" : Str)] depth') fun x438 => (N.cat x437 x438))) (ve_cat (u := (N.bind (N.rep [("(" : Str)] depth') fun x436 => (N.cat x436 [("z" : Str)]))) (ve_rep (u := (N.rep [("(" : Str)] depth')) (ve_lst (vl_cons (u := N.ok [("(" : Str)]) (ve_z vz_s zf_S) vl_nil)) (ve_varF zf_I) (fz_L (fz_z zf_S))) (ve_lst (vl_cons (u := N.ok [("z" : Str)]) (ve_z vz_s zf_S) vl_nil)) (fz_L (fz_z zf_S)) (fz_L (fz_z zf_S))) (ve_rep (u := (N.rep [(")" : Str)] depth')) (ve_lst (vl_cons (u := N.ok [(")" : Str)]) (ve_z vz_s zf_S) vl_nil)) (ve_varF zf_I) (fz_L (fz_z zf_S))) (fz_L (fz_z zf_S)) (fz_L (fz_z zf_S))) vg_n (fun words' => (vs_ifJP (GJ := fun (y : Unit) => [.val eI cell', .val eI depth', .val (eLi false eS) words', .any, .any, .any]) (vt_z (vz_2 (v := N.ok (decide (depth' < 17))) vz_var vz_i o_lt nx_p2)) (vs_one (vs_if (vt_not (vt_e (ve_call (v := (N.bind (n_tree_of words') fun x443 => (n__law_alike x443 (D.tup [(D.str ("name" : Str)), (D.str ("z" : Str))])))) (va_cons (u := (N.bind (n_tree_of words') fun x444 => N.ok (x444, (D.tup [(D.str ("name" : Str)), (D.str ("z" : Str))])))) (ve_call (v := (n_tree_of words')) (va_one (ve_var (fz_L (fz_z zf_S)))) vf_tree_of (fzl_one (fz_z zf_L)) xt ) (va_one (ve_imp (w := N.ok (D.tup [(D.str ("name" : Str)), (D.str ("z" : Str))])) (ve_tup (va_cons (u := N.ok (("name" : Str), ("z" : Str))) (ve_z vz_s zf_S) (va_one (ve_z vz_s zf_S))) (fzl_cons (fz_z zf_S) (fzl_one (fz_z zf_S))) (len_cons len_one)) _ (to_D (fx_T (fxl_cons fx_S (fxl_one fx_S))) zf_T)))) vf__law_alike (fzl_cons (fz_z zf_D) (fzl_one (fz_z zf_D))) xt ))) (vs_stop (vs_retP (ve_z vz_b zf_B) (fun a => a) (fun a d τ h s => h))) (vs_doc (vs_end ent_id)))) (vs_one (vs_if (vt_not (vt_e (ve_call (v := (n__law_refused words')) (va_one (ve_var (fz_L (fz_z zf_S)))) vf__law_refused (fzl_one (fz_z zf_L)) xt ))) (vs_stop (vs_retP (ve_z vz_b zf_B) (fun a => a) (fun a d τ h s => h))) (vs_doc (vs_end ent_id)))) (fun s447 => (vs_asg (ve_z (vz_2 (v := (N.bind (N.bind (N.div cell' 5) fun x448 => (N.mod x448 5)) fun x449 => N.ok (58 + x449))) vz_i (vz_2 (v := (N.bind (N.div cell' 5) fun x448 => (N.mod x448 5))) (vz_2 (v := (N.div cell' 5)) vz_var vz_i o_div nx_div) vz_i o_mod nx_mod) o_add nx_p2) zf_I) vg_n (fun many' => (vs_asg (ve_imp (w := N.ok (D.tup [(D.str ("name" : Str)), (D.str ("q" : Str))])) (ve_tup (va_cons (u := N.ok (("name" : Str), ("q" : Str))) (ve_z vz_s zf_S) (va_one (ve_z vz_s zf_S))) (fzl_cons (fz_z zf_S) (fzl_one (fz_z zf_S))) (len_cons len_one)) _ (to_D (fx_T (fxl_cons fx_S (fxl_one fx_S))) zf_T)) vg_n (fun tree' => (vs_for (GI := fun (y : D) => [.val eI cell', .val eI depth', .val (eLi false eS) words', .val eI many', .val eD y, .any]) (s0 := tree') (vi_r1 (w := (N.range (many' - 1))) (va_one (ve_z (vz_2 (v := N.ok (many' - 1)) vz_var vz_i o_sub nx_p2) zf_I))) vg_n ent_id (fun (k' : Int) (s450 : D) => (vs_one (vs_asg (ve_imp (w := N.ok (D.tup [(D.str ("plus" : Str)), s450, (D.tup [(D.str ("name" : Str)), (D.str ("q" : Str))])])) (ve_tup (va_cons (u := N.ok (("plus" : Str), s450, (("name" : Str), ("q" : Str)))) (ve_z vz_s zf_S) (va_cons (u := N.ok (s450, (("name" : Str), ("q" : Str)))) (ve_varF zf_D) (va_one (ve_tup (va_cons (u := N.ok (("name" : Str), ("q" : Str))) (ve_z vz_s zf_S) (va_one (ve_z vz_s zf_S))) (fzl_cons (fz_z zf_S) (fzl_one (fz_z zf_S))) (len_cons len_one))))) (fzl_cons (fz_z zf_S) (fzl_cons (fz_z zf_D) (fzl_one (fz_z zf_T)))) (len_cons (len_cons len_one))) _ (to_D (fx_T (fxl_cons fx_S (fxl_cons fx_D (fxl_one (fx_T (fxl_cons fx_S (fxl_one fx_S))))))) zf_T)) vg_n (fun tree'2 => (vs_end (ent_cons se_id (ent_cons se_id (ent_cons se_id (ent_cons se_id (ent_cons se_id (ent_cons se_any ent_nil))))))))))) (fun (s451 : D) => (vs_asg (ve_cat (u := (N.bind (N.rep [("+" : Str), ("q" : Str)] (many' - 1)) fun x452 => (N.cat [("q" : Str)] x452))) (ve_lst (vl_cons (u := N.ok [("q" : Str)]) (ve_z vz_s zf_S) vl_nil)) (ve_rep (u := (N.rep [("+" : Str), ("q" : Str)] (many' - 1))) (ve_lst (vl_cons (u := N.ok [("+" : Str), ("q" : Str)]) (ve_z vz_s zf_S) (vl_cons (u := N.ok [("q" : Str)]) (ve_z vz_s zf_S) vl_nil))) (ve_z (vz_2 (v := N.ok (many' - 1)) vz_var vz_i o_sub nx_p2) zf_I) (fz_L (fz_z zf_S))) (fz_L (fz_z zf_S)) (fz_L (fz_z zf_S))) vg_n (fun words'1 => (vs_ifP (vt_z (vz_2 (v := N.ok (decide (many' < 61))) vz_var vz_i o_lt nx_p2)) (vs_stop (vs_ret (ve_call (v := (N.bind (n_tree_of words'1) fun x453 => (n__law_alike x453 s451))) (va_cons (u := (N.bind (n_tree_of words'1) fun x454 => N.ok (x454, s451))) (ve_call (v := (n_tree_of words'1)) (va_one (ve_var (fz_L (fz_z zf_S)))) vf_tree_of (fzl_one (fz_z zf_L)) xt ) (va_one (ve_varF zf_D))) vf__law_alike (fzl_cons (fz_z zf_D) (fzl_one (fz_z zf_D))) xt ) (fun a => a) (fun a d τ h s => h))) (vs_doc (vs_ret (ve_call (v := (n__law_refused words'1)) (va_one (ve_var (fz_L (fz_z zf_S)))) vf__law_refused (fzl_one (fz_z zf_L)) xt ) (fun a => a) (fun a d τ h s => h)))))))))))))))))))
@[irreducible] noncomputable def n_law (script' : (List Int)) : N Bool := NS.f (σ := Unit) (κ := Unit) (
N.s (N.bind (N.bind (N.bind (n__law_cell_at script' 0) fun x465 => (N.mod x465 1000000000000)) fun x466 => (n__law_atom x466)) fun x468 => N.ok [x468]) fun pieces' =>
N.s (N.ok (cutL script' (some 3) (some 45))) fun x522 =>
NS.s (forN (fun (cell' : Int) (s469 : (List (D × (List Str) × Int × Int))) =>
N.s (N.bind (N.mod cell' 10000000000000) fun x474 => (n__law_grown s469 x474)) fun pieces'3 =>
NS.nx pieces'3) x522 pieces') fun s476 =>
N.s (N.ix s476 0) fun piece' =>
N.s (N.ok (cutL s476 (some 1) none)) fun x521 =>
NS.s (forN (fun (other' : (D × (List Str) × Int × Int)) (s477 : (D × (List Str) × Int × Int)) =>
N.s (n__law_joined 0 s477 other') fun grown'1 =>
N.s (n__law_fits grown'1) fun b479 => if b479 = true then
NS.nx grown'1
else
NS.nx s477) x521 piece') fun s480 =>
N.s (N.or (N.not (N.bind (n_tree_of s480.2.1) fun x483 => (n__law_alike x483 s480.1))) (N.gb (gNe (D.lst false ((s480.2.1).map fun (z : Str) => (D.str z))) (D.lst false ((s480.2.1).map fun (z : Str) => (D.str z)))))) fun b520 => if b520 = true then
NS.rt false
else
N.s (N.bind (n__law_cell_at script' 1) fun x485 => (N.mod x485 ((s480.2.1).length : Int))) fun at' =>
N.s (N.or (N.not (N.bind (N.cat (cutL s480.2.1 none (some at')) (cutL s480.2.1 (some (at' + 1)) none)) fun x489 => (n__law_refused x489))) (N.not (N.bind (N.bind (N.cat (cutL s480.2.1 none (some at')) (cutL s480.2.1 (some at') (some (at' + 1)))) fun x490 => (N.cat x490 (cutL s480.2.1 (some at') none))) fun x491 => (n__law_refused x491)))) fun b519 => if b519 = true then
NS.rt false
else
NS.s (
if (decide (((s480.2.1).length : Int) < 119)) = true then
N.s (N.bind (N.bind (n__law_cell_at script' 2) fun x496 => (N.mod x496 10)) fun x497 => (N.ix [("0" : Str), ("1" : Str), ("7" : Str), ("-2" : Str), ("02" : Str), ("x" : Str), ("" : Str), ("2/3" : Str), ("22" : Str), ("(" : Str)] x497)) fun many'1 =>
N.s (N.not (N.bind (N.cat s480.2.1 [("^" : Str), many'1]) fun x498 => (n__law_refused x498))) fun b499 => if b499 = true then
NS.rt false
else
NS.nx ()
else
NS.nx ()) fun s500 =>
N.s (N.ok (("(" : Str), (")" : Str), ("+" : Str), ("-" : Str), ("*" : Str), ("^" : Str))) fun signs' =>
N.s (N.bind (N.range ((s480.2.1).length : Int)) fun x504 => lcN (fun (k' : Int) => (N.and (N.bind (N.ix s480.2.1 k') fun x501 => (N.gb (gIn true (D.str x501) (D.tup [(D.str signs'.1), (D.str signs'.2.1), (D.str signs'.2.2.1), (D.str signs'.2.2.2.1), (D.str signs'.2.2.2.2.1), (D.str signs'.2.2.2.2.2)])))) (N.or (N.ok (decide (k' = 0))) (N.bind (N.ix s480.2.1 (k' - 1)) fun x503 => (N.gb (gNe (D.str x503) (D.str ("^" : Str)))))))) (fun (k' : Int) => (N.ok k')) x504) fun atoms' =>
N.s (N.bind (N.bind (N.bind (n__law_cell_at script' 1) fun x505 => (N.div x505 7)) fun x506 => (N.mod x506 ((atoms').length : Int))) fun x507 => (N.ix atoms' x507)) fun at'1 =>
N.s (N.not (N.bind (N.bind (N.bind (N.bind (N.bind (N.bind (n__law_cell_at script' 2) fun x508 => (N.div x508 250)) fun x509 => (n__law_no_atom x509)) fun x511 => N.ok [x511]) fun x512 => (N.cat (cutL s480.2.1 none (some at'1)) x512)) fun x513 => (N.cat x513 (cutL s480.2.1 (some (at'1 + 1)) none))) fun x514 => (n__law_refused x514))) fun b518 => if b518 = true then
NS.rt false
else
N.s (N.bind (N.bind (n__law_cell_at script' 2) fun x515 => (N.div x515 10)) fun x516 => (n__law_edges x516)) fun x517 => NS.rt x517)
theorem vf_law : VF f_law (fun (a : (List Int)) => n_law a) (eOne eCn) eB := by
  rintro script' ds h
  show SatC _ (n_law script') _
  unfold n_law
  exact satC_of (L := fun (_ : Unit) => []) (G' := fun (_ : Unit) => [.any, .any, .any, .any, .any, .any, .any, .any, .any, .any, .any, .any, .any]) (n := 1) (N := 13) (b := m_law) rfl (inil_one _ _ h) rfl ((vs_asg (ve_lst (vl_cons (u := (N.bind (N.bind (N.bind (n__law_cell_at script' 0) fun x465 => (N.mod x465 1000000000000)) fun x466 => (n__law_atom x466)) fun x467 => N.ok [x467])) (ve_call (v := (N.bind (N.bind (n__law_cell_at script' 0) fun x465 => (N.mod x465 1000000000000)) fun x466 => (n__law_atom x466))) (va_one (ve_2 (v := (N.bind (n__law_cell_at script' 0) fun x465 => (N.mod x465 1000000000000))) (ve_call (v := (n__law_cell_at script' 0)) (va_cons (u := N.ok (script', 0)) (ve_varF zf_C) (va_one (ve_z vz_i zf_I))) vf__law_cell_at (fzl_cons (fz_z zf_C) (fzl_one (fz_z zf_I))) xt ) (ve_z (vz_cst (c := 1000000000000) (fun _ => by rfl)) zf_I) o_mod zf_I nx_mod)) vf__law_atom (fzl_one (fz_z zf_I)) xt ) vl_nil)) vg_n (fun pieces' => (vs_for (GI := fun (y : (List (D × (List Str) × Int × Int))) => [.val eCn script', .val (eLq (eTu (eCons eD (eCons (eLi false eS) (eCons eI (eOne eI))))) (eTu (eCons eD (eCons (eLi false eS) (eCons eI (eOne eI)))))) y, .any, .any, .any, .any, .any, .any, .any, .any, .any, .any, .any]) (s0 := pieces') (vi_l (ve_slice (w := N.ok (cutL script' (some 3) (some 45))) (ve_varF zf_C) (fz_z zf_C) (vp_some (ve_z vz_i zf_I)) (vp_some (ve_z vz_i zf_I)) sl_C (fun _ _ _ _ h => by cases h)) (fz_L (fz_z zf_I))) vg_n (ent_cons se_id (ent_cons (se_e se_lo) (ent_cons se_any (ent_cons se_any (ent_cons se_any (ent_cons se_any (ent_cons se_any (ent_cons se_any (ent_cons se_any (ent_cons se_any (ent_cons se_any (ent_cons se_any (ent_cons se_any ent_nil))))))))))))) (fun (cell' : Int) (s469 : (List (D × (List Str) × Int × Int))) => (vs_one (vs_asg (ve_call (v := (N.bind (N.mod cell' 10000000000000) fun x474 => (n__law_grown s469 x474))) (va_cons (u := (N.bind (N.mod cell' 10000000000000) fun x475 => N.ok (s469, x475))) (ve_var (fz_Lq (fz_z zf_T))) (va_one (ve_z (vz_2 (v := (N.mod cell' 10000000000000)) vz_var (vz_cst (c := 10000000000000) (fun _ => by rfl)) o_mod nx_mod) zf_I))) vf__law_grown (fzl_cons (fz_z zf_L) (fzl_one (fz_z zf_I))) xt ) vg_n (fun pieces'3 => (vs_end (ent_cons se_id (ent_cons se_id (ent_cons se_any (ent_cons se_any (ent_cons se_any (ent_cons se_any (ent_cons se_any (ent_cons se_any (ent_cons se_any (ent_cons se_any (ent_cons se_any (ent_cons se_any (ent_cons se_any ent_nil)))))))))))))))))) (fun (s476 : (List (D × (List Str) × Int × Int))) => (vs_asg (ve_z (vz_2 (v := (N.ix s476 0)) vz_var vz_i o_ixq nx_ix) zf_T) vg_n (fun piece' => (vs_for (GI := fun (y : (D × (List Str) × Int × Int)) => [.val eCn script', .val (eLi false (eTu (eCons eD (eCons (eLi false eS) (eCons eI (eOne eI)))))) s476, .any, .val (eTu (eCons eD (eCons (eLi false eS) (eCons eI (eOne eI))))) y, .any, .any, .any, .any, .any, .any, .any, .any, .any]) (s0 := piece') (vi_l (ve_slice (w := N.ok (cutL s476 (some 1) none)) (ve_var (fz_Lq (fz_z zf_T))) (fz_z zf_L) (vp_some (ve_z vz_i zf_I)) vp_none sl_L (fun _ _ _ _ h => by cases h)) (fz_L (fz_z zf_T))) vg_n ent_id (fun (other' : (D × (List Str) × Int × Int)) (s477 : (D × (List Str) × Int × Int)) => (vs_asg (ve_call (v := (n__law_joined 0 s477 other')) (va_cons (u := N.ok (0, s477, other')) (ve_z vz_i zf_I) (va_cons (u := N.ok (s477, other')) (ve_varF zf_T) (va_one (ve_varF zf_T)))) vf__law_joined (fzl_cons (fz_z zf_I) (fzl_cons (fz_z zf_T) (fzl_one (fz_z zf_T)))) xt ) vg_n (fun grown'1 => (vs_one (vs_if (vt_e (ve_call (v := (n__law_fits grown'1)) (va_one (ve_varF zf_T)) vf__law_fits (fzl_one (fz_z zf_T)) xt )) (vs_asgP (ve_varF zf_T) vg_n (vs_end (ent_cons se_id (ent_cons se_id (ent_cons se_any (ent_cons se_id (ent_cons se_any (ent_cons se_any (ent_cons se_any (ent_cons se_any (ent_cons se_any (ent_cons se_any (ent_cons se_any (ent_cons se_any (ent_cons se_any ent_nil))))))))))))))) (vs_doc (vs_end (ent_cons se_id (ent_cons se_id (ent_cons se_any (ent_cons se_id (ent_cons se_any (ent_cons se_any (ent_cons se_any (ent_cons se_any (ent_cons se_any (ent_cons se_any (ent_cons se_any (ent_cons se_any (ent_cons se_any ent_nil)))))))))))))))))))) (fun (s480 : (D × (List Str) × Int × Int)) => (vs_asgP (ve_z (vz_2 (v := N.ok s480.2.1) vz_var (vz_k (k := 1)) (o_ixT (pt_s pt_0)) nx_p2) zf_L) vg_n (vs_asgP (ve_lstOf (va_one (ve_varF zf_L)) (fz_z zf_L)) vg_n (vs_if (vt_or (vt_not (vt_e (ve_call (v := (N.bind (n_tree_of s480.2.1) fun x483 => (n__law_alike x483 s480.1))) (va_cons (u := (N.bind (n_tree_of s480.2.1) fun x484 => N.ok (x484, s480.1))) (ve_call (v := (n_tree_of s480.2.1)) (va_one (ve_var (fz_L (fz_z zf_S)))) vf_tree_of (fzl_one (fz_z zf_L)) xt ) (va_one (ve_z (vz_2 (v := N.ok s480.1) vz_var (vz_k (k := 0)) (o_ixT pt_0) nx_p2) zf_D))) vf__law_alike (fzl_cons (fz_z zf_D) (fzl_one (fz_z zf_D))) xt ))) (vt_z (vz_2 (v := (N.gb (gNe (D.lst false ((s480.2.1).map fun (z : Str) => (D.str z))) (D.lst false ((s480.2.1).map fun (z : Str) => (D.str z)))))) vz_var vz_var (o_ne (fn_L fn_S) (fn_L fn_S)) nx_gb2)) ent_id) (vs_stop (vs_retP (ve_z vz_b zf_B) (fun a => a) (fun a d τ h s => h))) (vs_doc (vs_asg (ve_2 (v := (N.bind (n__law_cell_at script' 1) fun x485 => (N.mod x485 ((s480.2.1).length : Int)))) (ve_call (v := (n__law_cell_at script' 1)) (va_cons (u := N.ok (script', 1)) (ve_varF zf_C) (va_one (ve_z vz_i zf_I))) vf__law_cell_at (fzl_cons (fz_z zf_C) (fzl_one (fz_z zf_I))) xt ) (ve_z (vz_call (v := N.ok ((s480.2.1).length : Int)) (vza_one vz_var) c_len nx_p1 ) zf_I) o_mod zf_I nx_mod) vg_n (fun at' => (vs_if (vt_or (vt_not (vt_e (ve_call (v := (N.bind (N.cat (cutL s480.2.1 none (some at')) (cutL s480.2.1 (some (at' + 1)) none)) fun x489 => (n__law_refused x489))) (va_one (ve_cat (u := (N.cat (cutL s480.2.1 none (some at')) (cutL s480.2.1 (some (at' + 1)) none))) (ve_slice (w := N.ok (cutL s480.2.1 none (some at'))) (ve_varF zf_L) (fz_z zf_L) vp_none (vp_some (ve_varF zf_I)) sl_L (fun _ _ _ _ h => by cases h)) (ve_slice (w := N.ok (cutL s480.2.1 (some (at' + 1)) none)) (ve_varF zf_L) (fz_z zf_L) (vp_some (ve_z (vz_2 (v := N.ok (at' + 1)) vz_var vz_i o_add nx_p2) zf_I)) vp_none sl_L (fun _ _ _ _ h => by cases h)) (fz_L (fz_z zf_S)) (fz_L (fz_z zf_S)))) vf__law_refused (fzl_one (fz_L (fz_z zf_S))) xt ))) (vt_not (vt_e (ve_call (v := (N.bind (N.bind (N.cat (cutL s480.2.1 none (some at')) (cutL s480.2.1 (some at') (some (at' + 1)))) fun x490 => (N.cat x490 (cutL s480.2.1 (some at') none))) fun x491 => (n__law_refused x491))) (va_one (ve_cat (u := (N.bind (N.cat (cutL s480.2.1 none (some at')) (cutL s480.2.1 (some at') (some (at' + 1)))) fun x490 => (N.cat x490 (cutL s480.2.1 (some at') none)))) (ve_cat (u := (N.cat (cutL s480.2.1 none (some at')) (cutL s480.2.1 (some at') (some (at' + 1))))) (ve_slice (w := N.ok (cutL s480.2.1 none (some at'))) (ve_varF zf_L) (fz_z zf_L) vp_none (vp_some (ve_varF zf_I)) sl_L (fun _ _ _ _ h => by cases h)) (ve_slice (w := N.ok (cutL s480.2.1 (some at') (some (at' + 1)))) (ve_varF zf_L) (fz_z zf_L) (vp_some (ve_varF zf_I)) (vp_some (ve_z (vz_2 (v := N.ok (at' + 1)) vz_var vz_i o_add nx_p2) zf_I)) sl_L (fun _ _ _ _ h => by cases h)) (fz_L (fz_z zf_S)) (fz_L (fz_z zf_S))) (ve_slice (w := N.ok (cutL s480.2.1 (some at') none)) (ve_varF zf_L) (fz_z zf_L) (vp_some (ve_varF zf_I)) vp_none sl_L (fun _ _ _ _ h => by cases h)) (fz_L (fz_z zf_S)) (fz_L (fz_z zf_S)))) vf__law_refused (fzl_one (fz_L (fz_z zf_S))) xt ))) ent_id) (vs_stop (vs_retP (ve_z vz_b zf_B) (fun a => a) (fun a d τ h s => h))) (vs_doc (vs_ifJP (GJ := fun (y : Unit) => [.val eCn script', .val (eLi false (eTu (eCons eD (eCons (eLi false eS) (eCons eI (eOne eI)))))) s476, .any, .val (eTu (eCons eD (eCons (eLi false eS) (eCons eI (eOne eI))))) s480, .any, .any, .val (eLi false eS) s480.2.1, .val (eLi false eS) s480.2.1, .val eI at', .any, .any, .any, .any]) (vt_z (vz_2 (v := N.ok (decide (((s480.2.1).length : Int) < 119))) (vz_call (v := N.ok ((s480.2.1).length : Int)) (vza_one vz_var) c_len nx_p1 ) vz_i o_lt nx_p2)) (vs_asg (ve_2 (v := (N.bind (N.bind (n__law_cell_at script' 2) fun x496 => (N.mod x496 10)) fun x497 => (N.ix [("0" : Str), ("1" : Str), ("7" : Str), ("-2" : Str), ("02" : Str), ("x" : Str), ("" : Str), ("2/3" : Str), ("22" : Str), ("(" : Str)] x497))) (ve_lst (vl_cons (u := N.ok [("0" : Str), ("1" : Str), ("7" : Str), ("-2" : Str), ("02" : Str), ("x" : Str), ("" : Str), ("2/3" : Str), ("22" : Str), ("(" : Str)]) (ve_z vz_s zf_S) (vl_cons (u := N.ok [("1" : Str), ("7" : Str), ("-2" : Str), ("02" : Str), ("x" : Str), ("" : Str), ("2/3" : Str), ("22" : Str), ("(" : Str)]) (ve_z vz_s zf_S) (vl_cons (u := N.ok [("7" : Str), ("-2" : Str), ("02" : Str), ("x" : Str), ("" : Str), ("2/3" : Str), ("22" : Str), ("(" : Str)]) (ve_z vz_s zf_S) (vl_cons (u := N.ok [("-2" : Str), ("02" : Str), ("x" : Str), ("" : Str), ("2/3" : Str), ("22" : Str), ("(" : Str)]) (ve_z vz_s zf_S) (vl_cons (u := N.ok [("02" : Str), ("x" : Str), ("" : Str), ("2/3" : Str), ("22" : Str), ("(" : Str)]) (ve_z vz_s zf_S) (vl_cons (u := N.ok [("x" : Str), ("" : Str), ("2/3" : Str), ("22" : Str), ("(" : Str)]) (ve_z vz_s zf_S) (vl_cons (u := N.ok [("" : Str), ("2/3" : Str), ("22" : Str), ("(" : Str)]) (ve_z vz_s zf_S) (vl_cons (u := N.ok [("2/3" : Str), ("22" : Str), ("(" : Str)]) (ve_z vz_s zf_S) (vl_cons (u := N.ok [("22" : Str), ("(" : Str)]) (ve_z vz_s zf_S) (vl_cons (u := N.ok [("(" : Str)]) (ve_z vz_s zf_S) vl_nil))))))))))) (ve_2 (v := (N.bind (n__law_cell_at script' 2) fun x496 => (N.mod x496 10))) (ve_call (v := (n__law_cell_at script' 2)) (va_cons (u := N.ok (script', 2)) (ve_varF zf_C) (va_one (ve_z vz_i zf_I))) vf__law_cell_at (fzl_cons (fz_z zf_C) (fzl_one (fz_z zf_I))) xt ) (ve_z vz_i zf_I) o_mod zf_I nx_mod) o_ix zf_S nx_ix) vg_n (fun many'1 => (vs_one (vs_if (vt_not (vt_e (ve_call (v := (N.bind (N.cat s480.2.1 [("^" : Str), many'1]) fun x498 => (n__law_refused x498))) (va_one (ve_cat (u := (N.cat s480.2.1 [("^" : Str), many'1])) (ve_varF zf_L) (ve_lst (vl_cons (u := N.ok [("^" : Str), many'1]) (ve_z vz_s zf_S) (vl_cons (u := N.ok [many'1]) (ve_varF zf_S) vl_nil))) (fz_z zf_L) (fz_L (fz_z zf_S)))) vf__law_refused (fzl_one (fz_L (fz_z zf_S))) xt ))) (vs_stop (vs_retP (ve_z vz_b zf_B) (fun a => a) (fun a d τ h s => h))) (vs_doc (vs_end (ent_cons se_id (ent_cons se_id (ent_cons se_any (ent_cons se_id (ent_cons se_any (ent_cons se_any (ent_cons se_id (ent_cons se_id (ent_cons se_id (ent_cons se_any (ent_cons se_any (ent_cons se_any (ent_cons se_any ent_nil))))))))))))))))))) (vs_end ent_id) (fun s500 => (vs_asg (ve_tup (va_cons (u := N.ok (("(" : Str), (")" : Str), ("+" : Str), ("-" : Str), ("*" : Str), ("^" : Str))) (ve_z vz_s zf_S) (va_cons (u := N.ok (((")" : Str), ("+" : Str), ("-" : Str), ("*" : Str), ("^" : Str)))) (ve_z vz_s zf_S) (va_cons (u := N.ok (("+" : Str), ("-" : Str), ("*" : Str), ("^" : Str))) (ve_z vz_s zf_S) (va_cons (u := N.ok (("-" : Str), ("*" : Str), ("^" : Str))) (ve_z vz_s zf_S) (va_cons (u := N.ok (("*" : Str), ("^" : Str))) (ve_z vz_s zf_S) (va_one (ve_z vz_s zf_S))))))) (fzl_cons (fz_z zf_S) (fzl_cons (fz_z zf_S) (fzl_cons (fz_z zf_S) (fzl_cons (fz_z zf_S) (fzl_cons (fz_z zf_S) (fzl_one (fz_z zf_S))))))) (len_cons (len_cons (len_cons (len_cons (len_cons len_one)))))) vg_n (fun signs' => (vs_asg (ve_lc (w := (N.bind (N.range ((s480.2.1).length : Int)) fun x504 => lcN (fun (k' : Int) => (N.and (N.bind (N.ix s480.2.1 k') fun x501 => (N.gb (gIn true (D.str x501) (D.tup [(D.str signs'.1), (D.str signs'.2.1), (D.str signs'.2.2.1), (D.str signs'.2.2.2.1), (D.str signs'.2.2.2.2.1), (D.str signs'.2.2.2.2.2)])))) (N.or (N.ok (decide (k' = 0))) (N.bind (N.ix s480.2.1 (k' - 1)) fun x503 => (N.gb (gNe (D.str x503) (D.str ("^" : Str)))))))) (fun (k' : Int) => (N.ok k')) x504)) (GI := [.val eCn script', .val (eLi false (eTu (eCons eD (eCons (eLi false eS) (eCons eI (eOne eI)))))) s476, .any, .val (eTu (eCons eD (eCons (eLi false eS) (eCons eI (eOne eI))))) s480, .any, .any, .val (eLi false eS) s480.2.1, .val (eLi false eS) s480.2.1, .val eI at', .any, .val (eTu (eCons eS (eCons eS (eCons eS (eCons eS (eCons eS (eOne eS))))))) signs', .any, .any]) (vi_r1 (w := (N.range ((s480.2.1).length : Int))) (va_one (ve_z (vz_call (v := N.ok ((s480.2.1).length : Int)) (vza_one vz_var) c_len nx_p1 ) zf_I))) vg_n ent_id (fun (k' : Int) => (vt_and (vt_z (vz_2 (v := (N.bind (N.ix s480.2.1 k') fun x501 => (N.gb (gIn true (D.str x501) (D.tup [(D.str signs'.1), (D.str signs'.2.1), (D.str signs'.2.2.1), (D.str signs'.2.2.2.1), (D.str signs'.2.2.2.2.1), (D.str signs'.2.2.2.2.2)]))))) (vz_2 (v := (N.ix s480.2.1 k')) vz_var vz_var o_ix nx_ix) vz_var (o_in (neg := true) fx_S (fx_T (fxl_cons fx_S (fxl_cons fx_S (fxl_cons fx_S (fxl_cons fx_S (fxl_cons fx_S (fxl_one fx_S)))))))) nx_gb2)) (vt_or (vt_z (vz_2 (v := N.ok (decide (k' = 0))) vz_var vz_i o_eqI nx_p2)) (vt_z (vz_2 (v := (N.bind (N.ix s480.2.1 (k' - 1)) fun x503 => (N.gb (gNe (D.str x503) (D.str ("^" : Str)))))) (vz_2 (v := (N.ix s480.2.1 (k' - 1))) vz_var (vz_2 (v := N.ok (k' - 1)) vz_var vz_i o_sub nx_p2) o_ix nx_ix) vz_s (o_ne fn_S fn_S) nx_gb2)) ent_id) ent_id)) (fun (k' : Int) => (ve_varF zf_I)) (fun (k' : Int) => ent_id) (fun (k' : Int) => ent_id)) vg_n (fun atoms' => (vs_asg (ve_2 (v := (N.bind (N.bind (N.bind (n__law_cell_at script' 1) fun x505 => (N.div x505 7)) fun x506 => (N.mod x506 ((atoms').length : Int))) fun x507 => (N.ix atoms' x507))) (ve_var (fz_L (fz_z zf_I))) (ve_2 (v := (N.bind (N.bind (n__law_cell_at script' 1) fun x505 => (N.div x505 7)) fun x506 => (N.mod x506 ((atoms').length : Int)))) (ve_2 (v := (N.bind (n__law_cell_at script' 1) fun x505 => (N.div x505 7))) (ve_call (v := (n__law_cell_at script' 1)) (va_cons (u := N.ok (script', 1)) (ve_varF zf_C) (va_one (ve_z vz_i zf_I))) vf__law_cell_at (fzl_cons (fz_z zf_C) (fzl_one (fz_z zf_I))) xt ) (ve_z vz_i zf_I) o_div zf_I nx_div) (ve_z (vz_call (v := N.ok ((atoms').length : Int)) (vza_one vz_var) c_len nx_p1 ) zf_I) o_mod zf_I nx_mod) o_ix zf_I nx_ix) vg_n (fun at'1 => (vs_if (vt_not (vt_e (ve_call (v := (N.bind (N.bind (N.bind (N.bind (N.bind (N.bind (n__law_cell_at script' 2) fun x508 => (N.div x508 250)) fun x509 => (n__law_no_atom x509)) fun x511 => N.ok [x511]) fun x512 => (N.cat (cutL s480.2.1 none (some at'1)) x512)) fun x513 => (N.cat x513 (cutL s480.2.1 (some (at'1 + 1)) none))) fun x514 => (n__law_refused x514))) (va_one (ve_cat (u := (N.bind (N.bind (N.bind (N.bind (N.bind (n__law_cell_at script' 2) fun x508 => (N.div x508 250)) fun x509 => (n__law_no_atom x509)) fun x511 => N.ok [x511]) fun x512 => (N.cat (cutL s480.2.1 none (some at'1)) x512)) fun x513 => (N.cat x513 (cutL s480.2.1 (some (at'1 + 1)) none)))) (ve_cat (u := (N.bind (N.bind (N.bind (N.bind (n__law_cell_at script' 2) fun x508 => (N.div x508 250)) fun x509 => (n__law_no_atom x509)) fun x511 => N.ok [x511]) fun x512 => (N.cat (cutL s480.2.1 none (some at'1)) x512))) (ve_slice (w := N.ok (cutL s480.2.1 none (some at'1))) (ve_varF zf_L) (fz_z zf_L) vp_none (vp_some (ve_varF zf_I)) sl_L (fun _ _ _ _ h => by cases h)) (ve_lst (vl_cons (u := (N.bind (N.bind (N.bind (n__law_cell_at script' 2) fun x508 => (N.div x508 250)) fun x509 => (n__law_no_atom x509)) fun x510 => N.ok [x510])) (ve_call (v := (N.bind (N.bind (n__law_cell_at script' 2) fun x508 => (N.div x508 250)) fun x509 => (n__law_no_atom x509))) (va_one (ve_2 (v := (N.bind (n__law_cell_at script' 2) fun x508 => (N.div x508 250))) (ve_call (v := (n__law_cell_at script' 2)) (va_cons (u := N.ok (script', 2)) (ve_varF zf_C) (va_one (ve_z vz_i zf_I))) vf__law_cell_at (fzl_cons (fz_z zf_C) (fzl_one (fz_z zf_I))) xt ) (ve_z vz_i zf_I) o_div zf_I nx_div)) vf__law_no_atom (fzl_one (fz_z zf_I)) xt ) vl_nil)) (fz_L (fz_z zf_S)) (fz_L (fz_z zf_S))) (ve_slice (w := N.ok (cutL s480.2.1 (some (at'1 + 1)) none)) (ve_varF zf_L) (fz_z zf_L) (vp_some (ve_z (vz_2 (v := N.ok (at'1 + 1)) vz_var vz_i o_add nx_p2) zf_I)) vp_none sl_L (fun _ _ _ _ h => by cases h)) (fz_L (fz_z zf_S)) (fz_L (fz_z zf_S)))) vf__law_refused (fzl_one (fz_L (fz_z zf_S))) xt ))) (vs_stop (vs_retP (ve_z vz_b zf_B) (fun a => a) (fun a d τ h s => h))) (vs_doc (vs_ret (ve_call (v := (N.bind (N.bind (n__law_cell_at script' 2) fun x515 => (N.div x515 10)) fun x516 => (n__law_edges x516))) (va_one (ve_2 (v := (N.bind (n__law_cell_at script' 2) fun x515 => (N.div x515 10))) (ve_call (v := (n__law_cell_at script' 2)) (va_cons (u := N.ok (script', 2)) (ve_varF zf_C) (va_one (ve_z vz_i zf_I))) vf__law_cell_at (fzl_cons (fz_z zf_C) (fzl_one (fz_z zf_I))) xt ) (ve_z vz_i zf_I) o_div zf_I nx_div)) vf__law_edges (fzl_one (fz_z zf_I)) xt ) (fun a => a) (fun a d τ h s => h)))))))))))))))))))))))))))))
end Lw
namespace Lw
open Bn
namespace Q
open SX (S S_len S_cat S_beq_eq)
open PySem.NumText (AllDigits digitsVal)
theorem f_ok {σ κ ρ : Type} (r : ρ) : NS.f (NS.rt r : NS σ κ ρ) = .ok r := rfl
theorem f_ex {σ κ ρ : Type} (c : PySem.Str) : NS.f (NS.ex c : NS σ κ ρ) = (.ex c : N ρ) := rfl
theorem sok {a : List Nat} (h : ∀ c ∈ a, c < 1114112) : PySem.PyData.strOk (S a) = true := by
  show (S a).cps.all _ = true
  rw [← Array.all_toList]
  exact List.all_eq_true.mpr fun c hc => decide_eq_true (h c hc)
theorem eq_S {a b : List Nat} (h : ∀ c ∈ a, c < 1114112) (k : ∀ c ∈ b, c < 1114112) : N.gb (gEq (.str (S a)) (.str (S b))) = .ok (decide (a = b)) := by
  rw [vEqS (sok h) (sok k), S_beq_eq]; unfold N.gb; rfl
theorem ne_S {a b : List Nat} (h : ∀ c ∈ a, c < 1114112) (k : ∀ c ∈ b, c < 1114112) : N.gb (gNe (.str (S a)) (.str (S b))) = .ok (!decide (a = b)) := by
  rw [vNeS (sok h) (sok k), S_beq_eq]; unfold N.gb; rfl
theorem slen_S {a : List Nat} (h : a.length ≤ 1000000) : N.slen (S a) = .ok (a.length : Int) := by
  unfold N.slen; rw [S_len, if_pos h]
theorem sin_S (c : Nat) (b : List Nat) : N.sin (S [c]) (S b) = .ok (decide (c ∈ b)) := by unfold N.sin; rfl
theorem signs_S (a : List Nat) : signs (S a) = a.map fun c => S [c] := rfl
theorem six_S {a : List Nat} {k c : Nat} (h : a.length ≤ 1000000) (e : a[k]? = some c) : N.six (S a) (k : Int) = .ok (S [c]) := by
  unfold N.six
  rw [S_len, if_pos h]
  show N.o ((L2.atI a (k : Int)).map _) = _
  rw [show L2.atI a (k : Int) = a[k]? from atI_of rfl, e]; rfl
theorem cut_to {a : List Nat} {i : Int} (hl : a.length ≤ 1000000) (h : 0 ≤ i) : N.cutS (S a) none (some i) = .ok (S (a.take i.toNat)) := by
  unfold N.cutS; rw [S_len, if_pos hl, C8.cutS_slice, SX.slice_to h]
theorem cut_from {a : List Nat} {i : Int} (hl : a.length ≤ 1000000) (h : 0 ≤ i) : N.cutS (S a) (some i) none = .ok (S (a.drop i.toNat)) := by
  unfold N.cutS; rw [S_len, if_pos hl, C8.cutS_slice, SX.slice_from h]
theorem sadd_S {a b : List Nat} (h : a.length + b.length ≤ 1000000) : N.sadd (S a) (S b) = .ok (S (a ++ b)) := by
  unfold N.sadd; rw [S_len, S_len, if_pos h, S_cat]
theorem split_slash {a : List Nat} (h : a.length ≤ 1000000) : N.split (S a) (S [47]) = .ok ((TL.spl [47] 0 [] a).map S) := by
  unfold N.split
  rw [S_len, S_len, if_pos ⟨by decide, h⟩, SX.split_S (by decide) (by decide)]
theorem forN_ex {α ρ κ : Type} {b : α → Unit → NS Unit Unit ρ} {q : α → Bool} {c : PySem.Str} : ∀ {xs : List α}, (∀ x ∈ xs, b x () = if q x = true then .nx () else .ex c) → (forN b xs () : NS Unit κ ρ) = if xs.all q = true then .nx () else .ex c
  | [], _ => rfl
  | x :: xs, h => by
    rw [List.all_cons]
    unfold forN
    rw [h x List.mem_cons_self]
    cases q x with
    | false => rfl
    | true =>
      rw [if_pos rfl, Bool.true_and]
      exact forN_ex fun y hy => h y (List.mem_cons_of_mem _ hy)
theorem forN_rt {α ρ κ : Type} {b : α → Unit → NS Unit Unit ρ} {q : α → Bool} {r : ρ} : ∀ {xs : List α}, (∀ x ∈ xs, b x () = if q x = true then .nx () else .rt r) → (forN b xs () : NS Unit κ ρ) = if xs.all q = true then .nx () else .rt r
  | [], _ => rfl
  | x :: xs, h => by
    rw [List.all_cons]
    unfold forN
    rw [h x List.mem_cons_self]
    cases q x with
    | false => rfl
    | true =>
      rw [if_pos rfl, Bool.true_and]
      exact forN_rt fun y hy => h y (List.mem_cons_of_mem _ hy)
def digB (a : List Nat) : Bool := a.all fun c => decide (48 ≤ c) && decide (c ≤ 57)
def wh (a : List Nat) : Option Nat := if a = [] ∨ 9 < a.length then none else if digB a = false then none else if a.head? = some 48 ∧ 1 < a.length then none else some (digitsVal a)
theorem mem_fig (c : Nat) : (c ∈ [48, 49, 50, 51, 52, 53, 54, 55, 56, 57]) ↔ 48 ≤ c ∧ c ≤ 57 := by
  simp only [List.mem_cons, List.not_mem_nil, or_false]; omega
theorem all_map_S {q : PySem.Str → Bool} {p : Nat → Bool} (h : ∀ c, q (S [c]) = p c) (a : List Nat) : (a.map fun c => S [c]).all q = a.all p := by
  rw [List.all_map]; congr 1; funext c; exact h c
def figB (x : PySem.Str) : Bool := match x.cps.toList with
  | [c] => decide (48 ≤ c) && decide (c ≤ 57)
  | _ => false
theorem lit_nil : ("" : PySem.Str) = S [] := rfl
theorem lit_fig : ("0123456789" : PySem.Str) = S [48, 49, 50, 51, 52, 53, 54, 55, 56, 57] := rfl
theorem lit_0 : ("0" : PySem.Str) = S [48] := rfl
theorem whole_ok {a : List Nat} (ok : ∀ c ∈ a, c < 1114112) (hl : a.length ≤ 1000000) : n_whole_of (S a) = match wh a with | some n => .ok (n : Int) | none => .ex "NoRow" := by
  unfold n_whole_of wh
  rw [lit_nil, eq_S ok (fun _ h => by cases h), slen_S hl]
  simp only [N.or, N.bind_ok, N.s_ok]
  by_cases c1 : a = [] ∨ 9 < a.length
  · rw [if_pos c1]
    rcases c1 with c1 | c1
    · rw [decide_eq_true c1]; rfl
    · by_cases c2 : a = []
      · rw [decide_eq_true c2]; rfl
      · rw [decide_eq_false c2, if_neg (by decide), N.s_ok, decide_eq_true (show (9 : Int) < (a.length : Int) by omega)]; rfl
  · rw [if_neg c1]
    have c2 : ¬ a = [] := fun h => c1 (.inl h)
    have c3 : ¬ 9 < a.length := fun h => c1 (.inr h)
    rw [decide_eq_false c2, if_neg (by decide), N.s_ok, decide_eq_false (show ¬ (9 : Int) < (a.length : Int) by omega), if_neg (by decide), signs_S]
    rw [forN_ex (q := figB) (c := "NoRow") (fun x hx => ?_)]
    · rw [all_map_S (p := fun c => decide (48 ≤ c) && decide (c ≤ 57)) (fun c => rfl)]
      show NS.f (NS.s (if digB a = true then _ else _) _) = _
      cases e : digB a with
      | false => rfl
      | true =>
        rw [if_pos rfl, if_neg (by decide)]
        show NS.f _ = _
        obtain ⟨c, r, rfl⟩ : ∃ c r, a = c :: r := by cases a with | nil => exact absurd rfl c2 | cons c r => exact ⟨c, r, rfl⟩
        rw [show ((0 : Int)) = ((0 : Nat) : Int) from rfl, six_S (k := 0) (c := c) hl rfl, N.bind_ok, lit_0, eq_S (fun d hd => by rw [List.mem_singleton.mp hd]; exact ok c List.mem_cons_self) (fun d hd => by rw [List.mem_singleton.mp hd]; decide)]
        have hint : N.int (S (c :: r)) = .ok ((digitsVal (c :: r) : Nat) : Int) := by
          unfold N.int
          rw [S_len, if_pos (by omega), SX.int_S e (List.cons_ne_nil _ _) (by omega)]; rfl
        simp only [N.and, N.bind_ok, hint, N.s_ok]
        by_cases h0 : c = 48
        · subst h0
          rw [decide_eq_true rfl, if_pos rfl, N.s_ok]
          by_cases h1 : 1 < (48 :: r).length
          · rw [decide_eq_true (show (1 : Int) < ((48 :: r).length : Int) by omega), if_pos rfl, if_pos ⟨rfl, h1⟩]; rfl
          · rw [decide_eq_false (show ¬ (1 : Int) < ((48 :: r).length : Int) by omega), if_neg (by decide), if_neg (fun h => h1 h.2)]; rfl
        · rw [decide_eq_false (fun h => h0 (List.cons.inj h).1), if_neg (by decide), N.s_ok, if_neg (by decide), if_neg (fun h => h0 (Option.some.inj h.1))]; rfl
    · obtain ⟨c, hc, rfl⟩ := List.mem_map.mp hx
      rw [lit_fig, sin_S]
      simp only [N.not, N.bind_ok, N.s_ok]
      by_cases h : 48 ≤ c ∧ c ≤ 57
      · rw [decide_eq_true ((mem_fig c).mpr h), if_neg (by decide), if_pos (by show (decide (48 ≤ c) && decide (c ≤ 57)) = true; rw [decide_eq_true h.1, decide_eq_true h.2]; rfl)]
      · rw [decide_eq_false (fun q => h ((mem_fig c).mp q)), if_pos (by decide), if_neg (by
          show ¬ (decide (48 ≤ c) && decide (c ≤ 57)) = true
          intro q; rw [Bool.and_eq_true] at q; exact h ⟨of_decide_eq_true q.1, of_decide_eq_true q.2⟩)]
end Q
end Lw
namespace Lw
open Bn
namespace Q
open SX (S S_len S_cat S_beq_eq)
open PySem.NumText (AllDigits digitsVal)
theorem euclidN {κ ρ : Type} : ∀ (m n a b : Nat), b < 2 ^ m → 2 * m + 1 ≤ n → (whileN (fun s : Int × Int => N.ok (decide (0 < s.2))) (fun s => N.s (N.mod s.1 s.2) fun r => NS.nx (s.2, r)) n ((a : Int), (b : Int)) : NS (Int × Int) κ ρ) = .nx (((Nat.gcd a b : Nat) : Int), 0)
  | 0, n, a, b, hb, hn => by
    obtain ⟨n, rfl⟩ : ∃ k, n = k + 1 := ⟨n - 1, by omega⟩
    have : b = 0 := by simpa using hb
    subst this
    rw [Nat.gcd_zero_right]; exact whileN_end rfl
  | m + 1, n, a, b, hb, hn => by
    by_cases b0 : b = 0
    · subst b0
      obtain ⟨n, rfl⟩ : ∃ k, n = k + 1 := ⟨n - 1, by omega⟩
      rw [Nat.gcd_zero_right]; exact whileN_end rfl
    · have step : ∀ (n a b : Nat), b ≠ 0 → (whileN (fun s : Int × Int => N.ok (decide (0 < s.2))) (fun s => N.s (N.mod s.1 s.2) fun r => NS.nx (s.2, r)) (n + 1) ((a : Int), (b : Int)) : NS (Int × Int) κ ρ) = whileN (fun s : Int × Int => N.ok (decide (0 < s.2))) (fun s => N.s (N.mod s.1 s.2) fun r => NS.nx (s.2, r)) n ((b : Int), ((a % b : Nat) : Int)) := fun n a b h => by
        refine whileN_step (congrArg N.ok (decide_eq_true (by show (0 : Int) < (b : Int); omega))) ?_
        show N.s (N.mod (a : Int) (b : Int)) _ = _
        rw [N.mod_ok (by omega), N.s_ok, ← Int.natCast_emod]
      obtain ⟨n, rfl⟩ : ∃ k, n = k + 2 := ⟨n - 2, by omega⟩
      rw [step (n + 1) a b b0]
      by_cases r0 : a % b = 0
      · have : Nat.gcd a b = b := by rw [Nat.gcd_comm, Nat.gcd_rec, r0, Nat.gcd_zero_left]
        rw [r0, this]; exact whileN_end rfl
      · have hg : Nat.gcd (a % b) (b % (a % b)) = Nat.gcd a b := by
          rw [Nat.gcd_comm (a % b), ← Nat.gcd_rec (a % b) b, ← Nat.gcd_rec b a, Nat.gcd_comm]
        rw [step n b (a % b) r0, euclidN m n (a % b) (b % (a % b)) ?_ (by omega), hg]
        have h1 := Nat.mod_lt b (show 0 < a % b by omega)
        have h2 := Nat.mod_lt a (show 0 < b by omega)
        have h3 := Nat.div_add_mod b (a % b)
        have h4 : 1 ≤ b / (a % b) := (Nat.one_le_div_iff (by omega)).mpr (by omega)
        have h5 : a % b * 1 ≤ a % b * (b / (a % b)) := Nat.mul_le_mul_left _ h4
        rw [Nat.pow_succ] at hb
        omega
theorem fuel_big : 2 * 200 ^ 8 + 1 ≤ fuelN := by unfold fuelN; decide
theorem abs_n (a : Int) : (if a < 0 then -a else a) = (a.natAbs : Int) := by split <;> omega
theorem divisor_ok {a b : Int} {m : Nat} (hm : m ≤ 100000) (hb : b.natAbs < 2 ^ m) : n_divisor a b = .ok ((Nat.gcd a.natAbs b.natAbs : Nat) : Int) := by
  have hf := fuel_big
  have e := fun κ ρ => euclidN (κ := κ) (ρ := ρ) m fuelN a.natAbs b.natAbs hb (by omega)
  unfold n_divisor
  simp only [N.s_ok, abs_n]
  rw [e]
  rfl
theorem fraction_ok {t b : Int} (h : 2 ≤ b) (hb : b.natAbs < 2 ^ 64) : n_fraction t b = .ok (t / ((Nat.gcd t.natAbs b.natAbs : Nat) : Int), b / ((Nat.gcd t.natAbs b.natAbs : Nat) : Int)) := by
  have g0 : 0 < Nat.gcd t.natAbs b.natAbs := Nat.gcd_pos_of_pos_right _ (by omega)
  have g1 : Nat.gcd t.natAbs b.natAbs ≤ b.natAbs := Nat.gcd_le_right _ (by omega)
  have g2 : ((Nat.gcd t.natAbs b.natAbs : Nat) : Int).natAbs < 2 ^ 64 := by rw [Int.natAbs_natCast]; omega
  have dv : ∀ i : Int, N.div i ((Nat.gcd t.natAbs b.natAbs : Nat) : Int) = .ok (i / ((Nat.gcd t.natAbs b.natAbs : Nat) : Int)) := fun i => N.div_ok (b := 64) (by omega) g2
  have dq := divisor_ok (a := t) (m := 64) (by decide) hb
  generalize ((Nat.gcd t.natAbs b.natAbs : Nat) : Int) = g at dv dq ⊢
  unfold n_fraction
  rw [decide_eq_false (by omega), if_neg (by decide), decide_eq_false (by omega), if_neg (by decide)]
  simp only [NS.s, dq, N.s_ok, dv, N.bind_ok]
  rfl
def topL (p : List Nat) : Option Int := if p.head? = some 45 then (match wh p.tail with | some n => if n = 0 then none else some (-(n : Int)) | none => none) else (match wh p with | some n => some (n : Int) | none => none)
def nuL : List (List Nat) → Option (Int × Int)
  | [p] => match topL p with | some t => some (t, 1) | none => none
  | [p, q] => match topL p, wh q with | some t, some b => if b < 2 ∨ Nat.gcd t.natAbs b ≠ 1 then none else some (t, (b : Int)) | _, _ => none
  | _ => none
def nu (a : List Nat) : Option (Int × Int) := nuL (TL.spl [47] 0 [] a)
def outN {α : Type} : Option α → N α
  | some r => .ok r
  | none => .ex "NoRow"
theorem spl_parts (S : List Nat) : ∀ (l : List Nat) (k : Nat) (acc : List Nat), TL.spl S k acc l ≠ [] ∧ ∀ p ∈ TL.spl S k acc l, (∀ c ∈ p, c ∈ acc ++ l) ∧ p.length ≤ (acc ++ l).length
  | [], k, acc => by
    rw [TL.spl_nil]
    refine ⟨by simp, fun p hp => ?_⟩
    rw [List.mem_singleton.mp hp, List.append_nil]
    exact ⟨fun c h => h, Nat.le_refl _⟩
  | c :: r, 0, acc => by
    unfold TL.spl
    by_cases h : TL.pre S (c :: r) = true
    · rw [if_pos h]
      refine ⟨by simp, fun p hp => ?_⟩
      rcases List.mem_cons.mp hp with rfl | hp
      · exact ⟨fun d hd => List.mem_append_left _ hd, by simp⟩
      · obtain ⟨h1, h2⟩ := (spl_parts S r (S.length - 1) []).2 p hp
        exact ⟨fun d hd => List.mem_append_right _ (List.mem_cons_of_mem _ (h1 d hd)), by simp at h2 ⊢; omega⟩
    · rw [if_neg h]
      obtain ⟨h1, h2⟩ := spl_parts S r 0 (acc ++ [c])
      rw [show acc ++ [c] ++ r = acc ++ c :: r by simp] at h2
      exact ⟨h1, h2⟩
  | c :: r, k + 1, acc => by
    unfold TL.spl
    obtain ⟨h1, h2⟩ := spl_parts S r k acc
    refine ⟨h1, fun p hp => ?_⟩
    obtain ⟨h3, h4⟩ := h2 p hp
    refine ⟨fun d hd => ?_, by simp at h4 ⊢; omega⟩
    rcases List.mem_append.mp (h3 d hd) with h | h
    · exact List.mem_append_left _ h
    · exact List.mem_append_right _ (List.mem_cons_of_mem _ h)
theorem lit_m : ("-" : PySem.Str) = S [45] := rfl
theorem lit_s : ("/" : PySem.Str) = S [47] := rfl
theorem head_take (p : List Nat) : (p.take 1 = [45]) ↔ p.head? = some 45 := by
  cases p with
  | nil => simp
  | cons c r => simp
theorem wh_dig {a : List Nat} {n : Nat} (h : wh a = some n) : digB a = true ∧ a ≠ [] ∧ a.length ≤ 9 ∧ n = digitsVal a := by
  unfold wh at h
  by_cases c1 : a = [] ∨ 9 < a.length
  · rw [if_pos c1] at h; cases h
  · rw [if_neg c1] at h
    cases e : digB a with
    | false => rw [e, if_pos rfl] at h; cases h
    | true =>
      rw [e, if_neg (by decide)] at h
      split at h
      · cases h
      · exact ⟨rfl, fun q => c1 (.inl q), Nat.le_of_not_lt fun q => c1 (.inr q), (Option.some.inj h).symm⟩
theorem val_lt : ∀ (l : List Nat) (x : Nat), (l.all fun c => decide (48 ≤ c) && decide (c ≤ 57)) = true → l.foldl (fun acc c => acc * 10 + (c - 48)) x < (x + 1) * 10 ^ l.length
  | [], x, _ => by simp
  | c :: l, x, h => by
    rw [List.all_cons, Bool.and_eq_true, Bool.and_eq_true] at h
    have h1 := of_decide_eq_true h.1.1
    have h2 := of_decide_eq_true h.1.2
    have := val_lt l (x * 10 + (c - 48)) h.2
    rw [List.foldl_cons, List.length_cons, Nat.pow_succ]
    refine Nat.lt_of_lt_of_le this ?_
    have : x * 10 + (c - 48) + 1 ≤ (x + 1) * 10 := by omega
    calc (x * 10 + (c - 48) + 1) * 10 ^ l.length ≤ ((x + 1) * 10) * 10 ^ l.length := Nat.mul_le_mul_right _ this
      _ = (x + 1) * (10 ^ l.length * 10) := by rw [Nat.mul_assoc, Nat.mul_comm 10]
theorem wh_lt {a : List Nat} {n : Nat} (h : wh a = some n) : n < 1000000000 := by
  obtain ⟨h1, h2, h3, rfl⟩ := wh_dig h
  have := val_lt a 0 h1
  have e : (10 : Nat) ^ a.length ≤ 10 ^ 9 := Nat.pow_le_pow_right (by decide) h3
  unfold digitsVal
  omega
theorem topN_ok {p : List Nat} (ok : ∀ c ∈ p, c < 1114112) (hl : p.length ≤ 1000000) {σ κ : Type} {ρ : Type} {ps : List PySem.Str} (h0 : ps[0]? = some (S p)) (k : Int → NS σ κ ρ) :
    (NS.s (N.s (N.bind (N.bind (N.ix ps 0) fun x290 => (N.cutS x290 none (some 1))) fun x291 => (N.gb (gEq (D.str x291) (D.str ("-" : PySem.Str))))) fun b305 => if b305 = true then
N.s (N.bind (N.bind (N.bind (N.ix ps 0) fun x296 => (N.cutS x296 (some 1) none)) fun x297 => (n_whole_of x297)) fun x298 => N.ok (-x298)) fun top'2 =>
if (decide (top'2 = 0)) = true then
NS.ex "NoRow"
else
NS.nx top'2
else
N.s (N.bind (N.ix ps 0) fun x299 => (n_whole_of x299)) fun top'3 =>
NS.nx top'3) k : NS σ κ ρ) = match topL p with | some t => k t | none => .ex "NoRow" := by
  rw [show (0 : Int) = ((0 : Nat) : Int) from rfl, N.ix_ok h0, N.bind_ok, cut_to hl (by decide), N.bind_ok, lit_m, show Int.toNat 1 = 1 from rfl, eq_S (fun c hc => ok c (List.mem_of_mem_take hc)) (fun d hd => by rw [List.mem_singleton.mp hd]; decide), N.s_ok]
  unfold topL
  by_cases c : p.head? = some 45
  · rw [if_pos c, decide_eq_true ((head_take p).mpr c), if_pos rfl, N.bind_ok, cut_from hl (by decide), N.bind_ok]
    show (NS.s (N.s (N.bind (n_whole_of (S (p.drop 1))) _) _) _) = _
    rw [List.drop_one, whole_ok (fun c hc => ok c (List.mem_of_mem_tail hc)) (by rw [List.length_tail]; omega)]
    cases e : wh p.tail with
    | none => rfl
    | some n =>
      dsimp only
      rw [N.bind_ok, N.s_ok]
      by_cases z : n = 0
      · subst z; rfl
      · rw [decide_eq_false (show ¬ (-(n : Int)) = ((0 : Nat) : Int) by omega), if_neg (by decide), if_neg z]; rfl
  · rw [if_neg c, decide_eq_false (fun q => c ((head_take p).mp q)), if_neg (by decide), N.bind_ok, whole_ok ok hl]
    cases e : wh p with
    | none => rfl
    | some n => rfl
theorem number_ok {a : List Nat} (ok : ∀ c ∈ a, c < 1114112) (hl : a.length ≤ 1000000) : n_number_of (S a) = outN (nu a) := by
  obtain ⟨ne, hp⟩ := spl_parts [47] a 0 []
  unfold n_number_of nu
  rw [lit_s, split_slash hl, N.s_ok]
  generalize TL.spl [47] 0 [] a = ps at ne hp ⊢
  match ps, ne, hp with
  | [], ne, _ => exact absurd rfl ne
  | [p], _, hp =>
    obtain ⟨h1, h2⟩ := hp p List.mem_cons_self
    rw [decide_eq_false (by simp), if_neg (by decide), topN_ok (p := p) (fun c hc => ok c (by simpa using h1 c hc)) (by simp at h2; omega) rfl]
    unfold nuL
    dsimp only
    cases topL p with
    | none => rfl
    | some t => rfl
  | [p, q], _, hp =>
    obtain ⟨h1, h2⟩ := hp p List.mem_cons_self
    obtain ⟨h3, h4⟩ := hp q (List.mem_cons_of_mem _ List.mem_cons_self)
    rw [decide_eq_false (by simp), if_neg (by decide), topN_ok (p := p) (fun c hc => ok c (by simpa using h1 c hc)) (by simp at h2; omega) rfl]
    unfold nuL
    dsimp only
    cases topL p with
    | none => rfl
    | some t =>
      dsimp only
      rw [decide_eq_false (by simp), if_neg (by decide), show (1 : Int) = ((1 : Nat) : Int) from rfl, N.ix_ok (xs := [p, q].map S) (k := 1) (x := S q) rfl, N.bind_ok, whole_ok (fun c hc => ok c (by simpa using h3 c hc)) (by simp at h4; omega)]
      cases e : wh q with
      | none => rfl
      | some b =>
        dsimp only
        have hb := wh_lt e
        rw [N.s_ok]
        simp only [N.or, N.bind_ok]
        by_cases z : b < 2
        · rw [decide_eq_true (show (b : Int) < 2 by omega), if_pos rfl, N.s_ok, if_pos rfl, if_pos (.inl z)]; rfl
        · rw [decide_eq_false (show ¬ (b : Int) < 2 by omega), if_neg (by decide), fraction_ok (by omega) (by omega), N.bind_ok, vNe2]
          rw [Int.natAbs_natCast]
          have g0 : 0 < Nat.gcd t.natAbs b := Nat.gcd_pos_of_pos_right _ (by omega)
          by_cases g1 : Nat.gcd t.natAbs b = 1
          · rw [if_neg (fun h => h.elim z fun h => h g1), g1]
            simp [N.gb, N.s_ok, outN, f_ok]
          · rw [if_pos (.inr g1)]
            have hne : ¬ (b : Int) / ((Nat.gcd t.natAbs b : Nat) : Int) = (b : Int) := by
              rw [← Int.natCast_ediv]
              intro q
              have q' : b / Nat.gcd t.natAbs b = b := by exact_mod_cast q
              have := Nat.div_lt_self (show 0 < b by omega) (show 1 < Nat.gcd t.natAbs b by omega)
              omega
            have e2 : ((b : Int) / ((Nat.gcd t.natAbs b : Nat) : Int) == (b : Int)) = false := by rw [beq_eq_false_iff_ne]; exact hne
            rw [e2]
            simp [N.gb, N.s_ok, outN, f_ex]
  | p :: q :: r :: l, _, _ =>
    rw [decide_eq_true (by simp; omega), if_pos rfl]; rfl
end Q
end Lw
namespace Lw
open Bn
namespace Q
open SX (S S_len S_cat S_beq_eq)
open PySem.NumText (AllDigits digitsVal)
theorem tup_in (w : PySem.Str) (ws : List PySem.Str) : N.gb (gIn false (.str w) (.tup (ws.map D.str))) = .ok (ws.any fun y => y == w) := by
  have e : gIn false (.str w) (.tup (ws.map D.str)) = some (D.bl (ws.any fun y => y == w)) := by
    show (if flatD (.str w) = true ∧ (ws.map D.str).all flatD = true then some (D.bl (L2.inV (toV (.str w)) ((ws.map D.str).map toV))) else none) = _
    rw [if_pos ⟨rfl, by rw [List.all_map]; exact List.all_eq_true.mpr fun _ _ => rfl⟩]
    refine congrArg (fun b => some (D.bl b)) ?_
    unfold L2.inV
    rw [List.any_map, List.any_map]; rfl
  rw [e]; unfold N.gb; rfl
def keptB (a : List Nat) : Bool := ks_KEPT.any fun y => y == S a
def nameB (a : List Nat) : Bool := if a = [] ∨ 8 < a.length ∨ keptB a = true then false else a.all fun c => decide (97 ≤ c) && decide (c ≤ 122)
theorem lit_abc : ("abcdefghijklmnopqrstuvwxyz" : PySem.Str) = S [97, 98, 99, 100, 101, 102, 103, 104, 105, 106, 107, 108, 109, 110, 111, 112, 113, 114, 115, 116, 117, 118, 119, 120, 121, 122] := rfl
theorem mem_abc (c : Nat) : (c ∈ [97, 98, 99, 100, 101, 102, 103, 104, 105, 106, 107, 108, 109, 110, 111, 112, 113, 114, 115, 116, 117, 118, 119, 120, 121, 122]) ↔ 97 ≤ c ∧ c ≤ 122 := by
  simp only [List.mem_cons, List.not_mem_nil, or_false]; omega
def abcB (x : PySem.Str) : Bool := match x.cps.toList with
  | [c] => decide (97 ≤ c) && decide (c ≤ 122)
  | _ => false
theorem name_ok {a : List Nat} (ok : ∀ c ∈ a, c < 1114112) (hl : a.length ≤ 1000000) : n_is_name (S a) = .ok (nameB a) := by
  unfold n_is_name nameB
  rw [lit_nil, eq_S ok (fun _ h => by cases h), slen_S hl, show k_KEPT = .tup (ks_KEPT.map D.str) from rfl, tup_in]
  simp only [N.or, N.bind_ok]
  show NS.f (N.s (if decide (a = []) = true then N.ok true else if decide ((8 : Int) < (a.length : Int)) = true then N.ok true else N.ok (keptB a)) _) = _
  by_cases c1 : a = []
  · rw [decide_eq_true c1, if_pos rfl, if_pos (.inl c1)]; rfl
  · rw [decide_eq_false c1, if_neg (by decide)]
    by_cases c2 : 8 < a.length
    · rw [decide_eq_true (show (8 : Int) < (a.length : Int) by omega), if_pos rfl, if_pos (.inr (.inl c2))]; rfl
    · rw [decide_eq_false (show ¬ (8 : Int) < (a.length : Int) by omega), if_neg (by decide)]
      cases c3 : keptB a with
      | true => rw [if_pos (.inr (.inr rfl))]; rfl
      | false =>
        rw [if_neg (fun h => h.elim c1 fun h => h.elim c2 fun h => by cases h), N.s_ok, if_neg (by decide), N.s_ok, signs_S]
        rw [forN_rt (q := abcB) (r := false) (fun x hx => ?_)]
        · rw [all_map_S (p := fun c => decide (97 ≤ c) && decide (c ≤ 122)) (fun c => rfl)]
          cases e : a.all fun c => decide (97 ≤ c) && decide (c ≤ 122) with
          | false => rfl
          | true => rfl
        · obtain ⟨c, hc, rfl⟩ := List.mem_map.mp hx
          rw [lit_abc, sin_S]
          simp only [N.not, N.bind_ok, N.s_ok]
          by_cases h : 97 ≤ c ∧ c ≤ 122
          · rw [decide_eq_true ((mem_abc c).mpr h), if_neg (by decide), if_pos (by show (decide (97 ≤ c) && decide (c ≤ 122)) = true; rw [decide_eq_true h.1, decide_eq_true h.2]; rfl)]
          · rw [decide_eq_false (fun q => h ((mem_abc c).mp q)), if_pos (by decide), if_neg (by
              show ¬ (decide (97 ≤ c) && decide (c ≤ 122)) = true
              intro q; rw [Bool.and_eq_true] at q; exact h ⟨of_decide_eq_true q.1, of_decide_eq_true q.2⟩)]
def itx (i : Int) : List Nat := if i < 0 then 45 :: TL.numL i.natAbs else TL.numL i.natAbs
theorem str_itx (i : Int) : (toString i : PySem.Str) = S (itx i) := by
  cases i with
  | ofNat n =>
    have e : itx (Int.ofNat n) = TL.numL n := by unfold itx; rw [if_neg (by simp)]; rfl
    rw [e]; exact SX.num_S n
  | negSucc m =>
    have e : itx (Int.negSucc m) = 45 :: TL.numL (m + 1) := by unfold itx; rw [if_pos (Int.negSucc_lt_zero m)]; rfl
    rw [e]
    refine TL.ext_tl ?_
    show (PySem.Str.ofString (toString (Int.negSucc m))).cps.toList = 45 :: TL.numL (m + 1)
    have h := PySem.W.KIN.signs_num (m + 1)
    rw [PyProof.Rows.signs_ofString] at h ⊢
    rw [show toString (Int.negSucc m) = "-" ++ Nat.repr (m + 1) from rfl, String.toList_append, List.map_append]
    exact congrArg (fun l => 45 :: l) h
theorem nstr_ok {i : Int} (h : i.natAbs.log2 < 1920) : N.str i = .ok (S (itx i)) := by unfold N.str; rw [if_pos h, str_itx]
theorem itx_mem {i : Int} {c : Nat} (h : c ∈ itx i) : c = 45 ∨ 48 ≤ c ∧ c ≤ 57 := by
  unfold itx at h
  split at h
  · rcases List.mem_cons.mp h with h | h
    · exact .inl h
    · exact .inr (TL.numL_digits _ c h)
  · exact .inr (TL.numL_digits _ c h)
theorem dig_num (n : Nat) : digB (TL.numL n) = true := List.all_eq_true.mpr fun c hc => by
  have := TL.numL_digits n c hc
  rw [decide_eq_true this.1, decide_eq_true this.2]; rfl
theorem numL_head : ∀ n : Nat, 0 < n → (TL.numL n).head? ≠ some 48 := by
  intro n
  induction n using Nat.strongRecOn with
  | _ n ih =>
    intro h0
    by_cases h : n < 10
    · rw [TL.numL_lt h]; simp; omega
    · rw [TL.numL_step (by omega)]
      have q := ih (n / 10) (by omega) (by omega)
      have ne := TL.numL_ne (n / 10)
      revert q ne
      generalize TL.numL (n / 10) = l
      intro q ne
      cases l with
      | nil => exact absurd rfl ne
      | cons c r => exact q
theorem wh_num {n : Nat} (h : n < 1000000000) : wh (TL.numL n) = some n := by
  unfold wh
  have hl : (TL.numL n).length ≤ 9 := TL.numL_len (by decide) (by omega)
  rw [if_neg (fun q => q.elim (TL.numL_ne n) (by omega)), dig_num, if_neg (by decide), if_neg, TL.numL_val]
  rintro ⟨q1, q2⟩
  by_cases z : n = 0
  · subst z; rw [TL.numL_lt (by decide)] at q2; simp at q2
  · exact numL_head n (by omega) q1
theorem top_itx {i : Int} (h : i.natAbs < 1000000000) : topL (itx i) = some i := by
  unfold topL itx
  by_cases c : i < 0
  · rw [if_pos c, if_pos (show (45 :: TL.numL i.natAbs).head? = some 45 from rfl), List.tail_cons, wh_num h]
    dsimp only
    rw [if_neg (by omega)]
    exact congrArg some (by omega)
  · rw [if_neg c, if_neg, wh_num h]
    · exact congrArg some (by omega)
    · intro q
      have : (45 : Nat) ∈ TL.numL i.natAbs := List.mem_of_mem_head? q
      have := TL.numL_digits _ _ this
      omega
theorem slash_free {i : Int} : 47 ∉ itx i := fun h => by
  have := itx_mem h
  omega
theorem nu_int {i : Int} (h : i.natAbs < 1000000000) : nu (itx i) = some (i, 1) := by
  unfold nu
  rw [TL.spl_last1 slash_free, List.nil_append]
  unfold nuL
  dsimp only
  rw [top_itx h]
theorem nu_frac {t : Int} {b : Nat} (h : t.natAbs < 1000000000) (h2 : 2 ≤ b) (hb : b < 1000000000) (g : Nat.gcd t.natAbs b = 1) : nu (itx t ++ 47 :: itx (b : Int)) = some (t, (b : Int)) := by
  unfold nu
  rw [show itx t ++ 47 :: itx (b : Int) = itx t ++ ([47] ++ itx (b : Int)) from rfl, TL.spl_part1 slash_free, TL.spl_last1 slash_free]
  have e : itx (b : Int) = TL.numL b := by unfold itx; rw [if_neg (by omega)]; rfl
  rw [e, List.nil_append, List.nil_append]
  unfold nuL
  dsimp only
  rw [top_itx h, wh_num hb]
  dsimp only
  rw [if_neg (fun q => q.elim (by omega) fun q => q g)]
theorem itx_small {i : Int} {k : Nat} (hk : 0 < k) (h : i.natAbs < 10 ^ k) : (itx i).length ≤ k + 1 := by
  have := TL.numL_len hk h
  unfold itx
  split
  · simpa using this
  · omega
end Q
end Lw
namespace Lw
open Bn
namespace Q
open SX (S S_len S_cat S_beq_eq)
open PySem.NumText (AllDigits digitsVal)
abbrev Wd := List Nat
def wa (ws : List Wd) (i : Nat) : Wd := ws.getD i []
def WOk (ws : List Wd) : Prop := ∀ a ∈ ws, (∀ c ∈ a, c < 1114112) ∧ a.length ≤ 1000
theorem wa_lt {ws : List Wd} {i : Nat} (h : i < ws.length) : wa ws i = ws[i] := by
  unfold wa; rw [List.getD_eq_getElem?_getD, List.getElem?_eq_getElem h]; rfl
theorem wa_ge {ws : List Wd} {i : Nat} (h : ws.length ≤ i) : wa ws i = [] := by
  unfold wa; rw [List.getD_eq_getElem?_getD, List.getElem?_eq_none h]; rfl
theorem wa_in {ws : List Wd} {i : Nat} (h : wa ws i ≠ []) : i < ws.length := Nat.lt_of_not_le fun q => h (wa_ge q)
theorem WOk.wa {ws : List Wd} (h : WOk ws) (i : Nat) : (∀ c ∈ wa ws i, c < 1114112) ∧ (wa ws i).length ≤ 1000000 := by
  by_cases c : i < ws.length
  · rw [wa_lt c]; have := h _ (List.getElem_mem c); exact ⟨this.1, by omega⟩
  · rw [wa_ge (by omega)]; exact ⟨fun _ h => by (cases h), by simp⟩
theorem word_ok (ws : List Wd) (i : Nat) : n_word_at (ws.map S) (i : Int) = .ok (S (wa ws i)) := by
  unfold n_word_at
  rw [List.length_map]
  by_cases c : i < ws.length
  · rw [decide_eq_true (show (i : Int) < (ws.length : Int) by omega), if_pos rfl, N.ix_ok (k := i) (x := S (Q.wa ws i)) (by rw [List.getElem?_map, List.getElem?_eq_getElem c, wa_lt c]; rfl), N.s_ok]; rfl
  · rw [decide_eq_false (show ¬ (i : Int) < (ws.length : Int) by omega), if_neg (by decide), wa_ge (by omega)]; rfl
theorem lit_lp : ("(" : PySem.Str) = S [40] := rfl
theorem lit_rp : (")" : PySem.Str) = S [41] := rfl
theorem lit_ti : ("*" : PySem.Str) = S [42] := rfl
theorem lit_ca : ("^" : PySem.Str) = S [94] := rfl
theorem ok1 {k : Nat} (h : k < 1114112 := by decide) : ∀ c ∈ [k], c < 1114112 := fun d hd => by rw [List.mem_singleton.mp hd]; exact h
theorem pm_ok {a : Wd} : N.gb (gIn false (D.str (S a)) (D.tup [(D.str ("+" : PySem.Str)), (D.str ("-" : PySem.Str))])) = .ok (decide (a = [43] ∨ a = [45])) := by
  refine (tup_in (S a) [S [43], S [45]]).trans (congrArg N.ok ?_)
  show ((S [43] == S a) || ((S [45] == S a) || false)) = _
  rw [S_beq_eq, S_beq_eq, Bool.or_false]
  by_cases h1 : a = [43]
  · subst h1; rfl
  · by_cases h2 : a = [45]
    · subst h2; rfl
    · rw [decide_eq_false (fun h => h1 h.symm), decide_eq_false (fun h => h2 h.symm), decide_eq_false (fun h => h.elim h1 h2)]; rfl
def powL (a : Wd) : Option Int := if a = [50] then some 2 else if a = [51] then some 3 else if a = [52] then some 4 else if a = [53] then some 5 else if a = [54] then some 6 else none
theorem get_S {α : Type} {b a : Wd} {x : α} {l : List (PySem.Str × α)} : dkGet ((S b, x) :: l) (S a) = if a = b then some x else dkGet l (S a) := by
  conv => lhs; unfold dkGet
  by_cases h : a = b
  · subst h; rw [if_pos rfl, if_pos rfl]
  · rw [if_neg h, if_neg (fun q => h (SX.S_inj q).symm)]
theorem pow_get (a : Wd) : dkGet kn_POWERS (S a) = powL a := by
  show dkGet [(S [50], (2 : Int)), (S [51], 3), (S [52], 4), (S [53], 5), (S [54], 6)] (S a) = _
  unfold powL
  rw [get_S, get_S, get_S, get_S, get_S]; rfl
theorem powL_some {a : Wd} {n : Int} (h : powL a = some n) : (a = [50] ∨ a = [51] ∨ a = [52] ∨ a = [53] ∨ a = [54]) := by
  unfold powL at h
  by_cases h1 : a = [50]; exact .inl h1
  by_cases h2 : a = [51]; exact .inr (.inl h2)
  by_cases h3 : a = [52]; exact .inr (.inr (.inl h3))
  by_cases h4 : a = [53]; exact .inr (.inr (.inr (.inl h4)))
  by_cases h5 : a = [54]; exact .inr (.inr (.inr (.inr h5)))
  rw [if_neg h1, if_neg h2, if_neg h3, if_neg h4, if_neg h5] at h; cases h
def sgnB (a : Wd) : Bool := a == [40] || (a == [41] || (a == [43] || (a == [45] || (a == [42] || a == [94]))))
def vW (a : Wd) : Int := if a = [40] ∨ a = [41] then 0 else if a = [43] ∨ a = [45] ∨ a = [42] ∨ a = [94] then -1 else 1
def bW (a : Wd) : Int := if a = [40] then 1 else if a = [41] then -1 else 0
def cnt (f : Wd → Int) (ws : List Wd) : Int := (ws.map f).sum
def pre (f : Wd → Int) (ws : List Wd) (i : Nat) : Int := cnt f (ws.take i)
theorem cnt_app (f : Wd → Int) (a b : List Wd) : cnt f (a ++ b) = cnt f a + cnt f b := by unfold cnt; rw [List.map_append, List.sum_append]
theorem cnt_cons (f : Wd → Int) (a : Wd) (b : List Wd) : cnt f (a :: b) = f a + cnt f b := by unfold cnt; rw [List.map_cons, List.sum_cons]
theorem cnt_nil (f : Wd → Int) : cnt f [] = 0 := rfl
theorem pre_succ {f : Wd → Int} {ws : List Wd} {i : Nat} (h : i < ws.length) : pre f ws (i + 1) = pre f ws i + f (wa ws i) := by
  unfold pre
  rw [List.take_succ, List.getElem?_eq_getElem h, wa_lt h, cnt_app]
  show _ + cnt f [ws[i]] = _
  rw [cnt_cons, cnt_nil]; omega
theorem pre_zero (f : Wd → Int) (ws : List Wd) : pre f ws 0 = 0 := rfl
theorem pre_all (f : Wd → Int) (ws : List Wd) : pre f ws ws.length = cnt f ws := by unfold pre; rw [List.take_length]
def Good (a : Wd) : Prop := sgnB a = true ∨ nameB a = true ∨ (nu a).isSome = true
structure Seg (ws : List Wd) (i e : Nat) : Prop where
  lt : i < e
  le : e ≤ ws.length
  v : pre vW ws e = pre vW ws i + 1
  b : pre bW ws e = pre bW ws i
  good : ∀ j, i ≤ j → j < e → Good (wa ws j)
  car : ∀ j, i ≤ j → j < e → wa ws j = [94] → (powL (wa ws (j + 1))).isSome = true
def Res (ws : List Wd) (i : Nat) (r : N (D × Int)) : Prop := (∃ t e, r = .ok (t, ((e : Nat) : Int)) ∧ Seg ws i e) ∨ r = .ex "NoRow"
theorem vW_atom {a : Wd} (h : sgnB a = false) : vW a = 1 ∧ bW a = 0 := by
  unfold sgnB at h
  simp only [Bool.or_eq_false_iff, beq_eq_false_iff_ne] at h
  obtain ⟨h1, h2, h3, h4, h5, h6⟩ := h
  unfold vW bW
  rw [if_neg (fun q => q.elim h1 h2), if_neg (fun q => q.elim h3 fun q => q.elim h4 fun q => q.elim h5 h6), if_neg h1, if_neg h2]
  exact ⟨rfl, rfl⟩
theorem sgn_cases {a : Wd} (h : sgnB a = true) : a = [40] ∨ a = [41] ∨ a = [43] ∨ a = [45] ∨ a = [42] ∨ a = [94] := by
  unfold sgnB at h
  simpa only [Bool.or_eq_true, beq_iff_eq] using h
theorem sgn_no {a : Wd} (h : sgnB a = true) : nameB a = false ∧ nu a = none := by
  rcases sgn_cases h with rfl | rfl | rfl | rfl | rfl | rfl <;> exact ⟨by decide +kernel, by decide +kernel⟩
theorem seg_atom {ws : List Wd} {i : Nat} (h : i < ws.length) (g : nameB (wa ws i) = true ∨ (nu (wa ws i)).isSome = true) : Seg ws i (i + 1) := by
  have s : sgnB (wa ws i) = false := by
    cases e : sgnB (wa ws i) with
    | false => rfl
    | true =>
      obtain ⟨h1, h2⟩ := sgn_no e
      rw [h1, h2] at g
      rcases g with g | g <;> cases g
  obtain ⟨v, b⟩ := vW_atom s
  refine ⟨by omega, by omega, by rw [pre_succ h, v], by rw [pre_succ h, b]; omega, fun j h1 h2 => ?_, fun j h1 h2 q => ?_⟩
  · obtain rfl : j = i := by omega
    exact .inr g
  · obtain rfl : j = i := by omega
    rw [q] at s; cases s
theorem loop_ok {κ ρ : Type} {c : D × Int → N Bool} {b : D × Int → NS (D × Int) (D × Int) ρ} (I : Nat → Prop) (n : Nat) (h : ∀ (s : D × Int) (e : Nat), s.2 = (e : Int) → I e → e ≤ n ∧ ∃ q, c s = .ok q ∧ (q = true → b s = .ex "NoRow" ∨ ∃ s' e', b s = .nx s' ∧ s'.2 = ((e' : Nat) : Int) ∧ e < e' ∧ I e')) :
    ∀ (f : Nat) (s : D × Int) (e : Nat), s.2 = (e : Int) → I e → n < f + e → (∃ s' e', (whileN c b f s : NS (D × Int) κ ρ) = .nx s' ∧ s'.2 = ((e' : Nat) : Int) ∧ I e') ∨ (whileN c b f s : NS (D × Int) κ ρ) = .ex "NoRow"
  | 0, s, e, he, hi, hf => absurd (h s e he hi).1 (by omega)
  | f + 1, s, e, he, hi, hf => by
    obtain ⟨_, q, h1, h2⟩ := h s e he hi
    cases q with
    | false => exact .inl ⟨s, e, whileN_end h1, he, hi⟩
    | true =>
      rcases h2 rfl with h3 | ⟨s', e', h3, h4, h5, h6⟩
      · refine .inr ?_
        unfold whileN
        rw [h1, h3]
      · rw [whileN_step h1 h3]
        exact loop_ok I n h f s' e' h4 h6 (by omega)
end Q
end Lw
namespace Lw
open Bn
namespace Q
open SX (S S_len S_cat S_beq_eq)
open PySem.NumText (AllDigits digitsVal)
theorem fuel_1000 : 2000 < fuelN := by unfold fuelN; decide
theorem seg_br {ws : List Wd} {i e : Nat} (hi : wa ws i = [40]) (h : Seg ws (i + 1) e) (he : wa ws e = [41]) : Seg ws i (e + 1) := by
  have i1 : i < ws.length := wa_in (by rw [hi]; simp)
  have e1 : e < ws.length := wa_in (by rw [he]; simp)
  have v1 := pre_succ (f := vW) i1
  have v2 := pre_succ (f := vW) e1
  have b1 := pre_succ (f := bW) i1
  have b2 := pre_succ (f := bW) e1
  rw [hi, show vW [40] = 0 from rfl] at v1
  rw [he, show vW [41] = 0 from rfl] at v2
  rw [hi, show bW [40] = 1 from rfl] at b1
  rw [he, show bW [41] = -1 from rfl] at b2
  have hv := h.v
  have hb := h.b
  have hl := h.lt
  refine ⟨by omega, by omega, by omega, by omega, fun j h1 h2 => ?_, fun j h1 h2 q => ?_⟩
  · by_cases c : j = i
    · subst c; rw [hi]; exact .inl rfl
    · by_cases d : j = e
      · subst d; rw [he]; exact .inl rfl
      · exact h.good j (by omega) (by omega)
  · by_cases c : j = i
    · subst c; rw [hi] at q; cases q
    · by_cases d : j = e
      · subst d; rw [he] at q; cases q
      · exact h.car j (by omega) (by omega) q
theorem pow_word {a : Wd} {n : Int} (h : powL a = some n) : vW a = 1 ∧ bW a = 0 ∧ Good a ∧ a ≠ [94] ∧ a ≠ [] := by
  rcases powL_some h with rfl | rfl | rfl | rfl | rfl <;> exact ⟨by decide, by decide, .inr (.inr (by decide +kernel)), by decide, by decide⟩
theorem seg_pow {ws : List Wd} {i e : Nat} {n : Int} (h : Seg ws i e) (hc : wa ws e = [94]) (hp : powL (wa ws (e + 1)) = some n) : Seg ws i (e + 2) := by
  obtain ⟨p1, p2, p3, p4, p5⟩ := pow_word hp
  have e1 : e < ws.length := wa_in (by rw [hc]; simp)
  have e2 : e + 1 < ws.length := wa_in p5
  have v1 := pre_succ (f := vW) e1
  have v2 := pre_succ (f := vW) e2
  have b1 := pre_succ (f := bW) e1
  have b2 := pre_succ (f := bW) e2
  rw [hc, show vW [94] = -1 from rfl] at v1
  rw [hc, show bW [94] = 0 from rfl] at b1
  rw [p1] at v2
  rw [p2] at b2
  replace v2 : pre vW ws (e + 2) = pre vW ws (e + 1) + 1 := v2
  replace b2 : pre bW ws (e + 2) = pre bW ws (e + 1) + 0 := b2
  have hv := h.v
  have hb := h.b
  have hl := h.lt
  refine ⟨by omega, by omega, by omega, by omega, fun j h1 h2 => ?_, fun j h1 h2 q => ?_⟩
  · by_cases c : j = e
    · subst c; rw [hc]; exact .inl rfl
    · by_cases d : j = e + 1
      · subst d; exact p3
      · exact h.good j (by omega) (by omega)
  · by_cases c : j = e
    · subst c; rw [hp]; rfl
    · by_cases d : j = e + 1
      · subst d; exact absurd q p4
      · exact h.car j (by omega) (by omega) q
theorem seg_op {ws : List Wd} {i e e2 : Nat} (h : Seg ws i e) (ho : wa ws e = [42] ∨ wa ws e = [43] ∨ wa ws e = [45]) (k : Seg ws (e + 1) e2) : Seg ws i e2 := by
  have e1 : e < ws.length := wa_in (by rcases ho with q | q | q <;> rw [q] <;> simp)
  have v1 := pre_succ (f := vW) e1
  have b1 := pre_succ (f := bW) e1
  have w : vW (wa ws e) = -1 ∧ bW (wa ws e) = 0 ∧ Good (wa ws e) ∧ wa ws e ≠ [94] := by
    rcases ho with q | q | q <;> rw [q] <;> exact ⟨rfl, rfl, .inl rfl, by decide⟩
  rw [w.1] at v1
  rw [w.2.1] at b1
  have hv := h.v
  have hb := h.b
  have hl := h.lt
  have kv := k.v
  have kb := k.b
  have kl := k.lt
  refine ⟨by omega, k.le, by omega, by omega, fun j h1 h2 => ?_, fun j h1 h2 q => ?_⟩
  · by_cases c : j = e
    · subst c; exact w.2.2.1
    · by_cases d : j < e
      · exact h.good j h1 d
      · exact k.good j (by omega) h2
  · by_cases c : j = e
    · subst c; exact absurd q w.2.2.2
    · by_cases d : j < e
      · exact h.car j h1 d q
      · exact k.car j (by omega) h2 q
theorem sound {ws : List Wd} (ok : WOk ws) (hn : ws.length ≤ 1000) (hB : ∀ i, i ≤ ws.length → pre bW ws i ≤ 16) : ∀ k : Nat,
    (∀ i d : Nat, pre bW ws i = (d : Int) → d ≤ 16 → 4 * (16 - d) + 1 ≤ k → Res ws i (nr_atom_at k (ws.map S) (i : Int))) ∧
    (∀ i d : Nat, pre bW ws i = (d : Int) → d ≤ 16 → 4 * (16 - d) + 2 ≤ k → Res ws i (nr_power_at k (ws.map S) (i : Int))) ∧
    (∀ i d : Nat, pre bW ws i = (d : Int) → d ≤ 16 → 4 * (16 - d) + 3 ≤ k → Res ws i (nr_product_at k (ws.map S) (i : Int))) ∧
    (∀ i d : Nat, pre bW ws i = (d : Int) → d ≤ 16 → 4 * (16 - d) + 4 ≤ k → Res ws i (nr_sum_at k (ws.map S) (i : Int)))
  | 0 => ⟨fun _ _ _ _ h => absurd h (by omega), fun _ _ _ _ h => absurd h (by omega), fun _ _ _ _ h => absurd h (by omega), fun _ _ _ _ h => absurd h (by omega)⟩
  | k + 1 => by
    obtain ⟨hA, hP, hQ, hS⟩ := sound ok hn hB k
    refine ⟨fun i d h0 h1 h2 => ?_, fun i d h0 h1 h2 => ?_, fun i d h0 h1 h2 => ?_, fun i d h0 h1 h2 => ?_⟩
    · unfold nr_atom_at
      obtain ⟨w1, w2⟩ := ok.wa i
      rw [word_ok, N.s_ok, lit_lp, eq_S w1 ok1, N.s_ok]
      by_cases c : wa ws i = [40]
      · rw [decide_eq_true c, if_pos rfl]
        have i1 : i < ws.length := wa_in (by rw [c]; simp)
        have b1 := pre_succ (f := bW) i1
        rw [c, show bW [40] = 1 from rfl] at b1
        have b2 := hB (i + 1) (by omega)
        rcases hS (i + 1) (d + 1) (by omega) (by omega) (by omega) with ⟨t, e, r, g⟩ | r
        · rw [show ((i : Int) + 1) = ((i + 1 : Nat) : Int) by omega, r, N.s_ok]
          obtain ⟨w3, w4⟩ := ok.wa e
          rw [word_ok, N.bind_ok, lit_rp, ne_S w3 ok1, N.s_ok]
          by_cases c2 : wa ws e = [41]
          · rw [decide_eq_true c2]
            exact .inl ⟨t, e + 1, rfl, seg_br c g c2⟩
          · rw [decide_eq_false c2]
            exact .inr rfl
        · rw [show ((i : Int) + 1) = ((i + 1 : Nat) : Int) by omega, r]
          exact .inr rfl
      · rw [decide_eq_false c, if_neg (by decide), name_ok w1 w2, N.s_ok]
        cases c2 : nameB (wa ws i) with
        | true =>
          have i1 : i < ws.length := wa_in (fun q => by rw [q] at c2; revert c2; decide +kernel)
          exact .inl ⟨_, i + 1, rfl, seg_atom i1 (.inl c2)⟩
        | false =>
          rw [if_neg (by decide), number_ok w1 w2]
          cases c3 : nu (wa ws i) with
          | none => exact .inr rfl
          | some r =>
            have i1 : i < ws.length := wa_in (fun q => by rw [q, show nu [] = none by decide +kernel] at c3; cases c3)
            exact .inl ⟨_, i + 1, rfl, seg_atom i1 (.inr (by rw [c3]; rfl))⟩
    · unfold nr_power_at
      rcases hA i d h0 h1 (by omega) with ⟨t, e, r, g⟩ | r
      · rw [r, N.s_ok]
        obtain ⟨w3, w4⟩ := ok.wa e
        rw [word_ok, N.bind_ok, lit_ca, ne_S w3 ok1, N.s_ok]
        by_cases c2 : wa ws e = [94]
        · rw [decide_eq_true c2]
          show Res ws i (NS.f (N.s (n_word_at (ws.map S) ((e : Int) + 1)) _))
          rw [show ((e : Int) + 1) = ((e + 1 : Nat) : Int) by omega, word_ok, N.s_ok]
          unfold kdInN kdIxN
          rw [pow_get]
          cases c3 : powL (wa ws (e + 1)) with
          | none => exact .inr rfl
          | some n => exact .inl ⟨_, e + 2, rfl, seg_pow g c2 c3⟩
        · rw [decide_eq_false c2]
          exact .inl ⟨t, e, rfl, g⟩
      · rw [r]; exact .inr rfl
    · unfold nr_product_at
      rcases hP i d h0 h1 (by omega) with ⟨t, e, r, g⟩ | r
      · rw [r, N.s_ok]
        have key := loop_ok (κ := Unit) (ρ := D × Int) (c := fun (s317 : (D × Int)) => (N.bind (n_word_at (ws.map S) s317.2) fun x319 => (N.gb (gEq (D.str x319) (D.str ("*" : PySem.Str))))))
          (b := fun (s317 : (D × Int)) => N.s ((nr_power_at k) (ws.map S) (s317.2 + 1)) fun other'1 => N.s (N.ok ((D.tup [(D.str ("times" : PySem.Str)), s317.1, other'1.1]), other'1.2)) fun found'2 => NS.nx found'2)
          (Seg ws i) ws.length (fun s e he hs => ⟨hs.le, decide (wa ws e = [42]), ?_, fun hq => ?_⟩) fuelN (t, (e : Int)) e rfl g (by have := fuel_1000; omega)
        · rcases key with ⟨s', e', k1, k2, k3⟩ | k1
          · exact .inl ⟨s'.1, e', by rw [k1]; show N.ok s' = _; rw [← k2], k3⟩
          · exact .inr (by rw [k1]; rfl)
        · obtain ⟨w3, w4⟩ := ok.wa e
          rw [he, word_ok, N.bind_ok, lit_ti, eq_S w3 ok1]
        · have hq' := of_decide_eq_true hq
          have e1 : e < ws.length := wa_in (by rw [hq']; simp)
          have b1 := pre_succ (f := bW) e1
          rw [hq', show bW [42] = 0 from rfl, hs.b] at b1
          rw [he, show ((e : Int) + 1) = ((e + 1 : Nat) : Int) by omega]
          rcases hP (e + 1) d (by omega) h1 (by omega) with ⟨t2, e2, r2, g2⟩ | r2
          · exact .inr ⟨_, e2, by rw [r2]; rfl, rfl, by have := hs.lt; have := g2.lt; omega, seg_op hs (.inl hq') g2⟩
          · exact .inl (by rw [r2]; rfl)
      · rw [r]; exact .inr rfl
    · unfold nr_sum_at
      rcases hQ i d h0 h1 (by omega) with ⟨t, e, r, g⟩ | r
      · rw [r, N.s_ok]
        have key := loop_ok (κ := Unit) (ρ := D × Int) (c := fun (s321 : (D × Int)) => (N.bind (n_word_at (ws.map S) s321.2) fun x326 => (N.gb (gIn false (D.str x326) (D.tup [(D.str ("+" : PySem.Str)), (D.str ("-" : PySem.Str))])))))
          (b := fun (s321 : (D × Int)) =>
N.s (N.ok ("plus" : PySem.Str)) fun name'3 =>
NS.s (
N.s (N.bind (N.ix (ws.map S) s321.2) fun x327 => (N.gb (gEq (D.str x327) (D.str ("-" : PySem.Str))))) fun b329 => if b329 = true then
N.s (N.ok ("minus" : PySem.Str)) fun name'5 =>
NS.nx name'5
else
NS.nx name'3) fun s328 =>
N.s ((nr_product_at k) (ws.map S) (s321.2 + 1)) fun other'1 =>
N.s (N.ok ((D.tup [(D.str s328), s321.1, other'1.1]), other'1.2)) fun found'2 =>
NS.nx found'2)
          (Seg ws i) ws.length (fun s e he hs => ⟨hs.le, decide (wa ws e = [43] ∨ wa ws e = [45]), ?_, fun hq => ?_⟩) fuelN (t, (e : Int)) e rfl g (by have := fuel_1000; omega)
        · rcases key with ⟨s', e', k1, k2, k3⟩ | k1
          · exact .inl ⟨s'.1, e', by rw [k1]; show N.ok s' = _; rw [← k2], k3⟩
          · exact .inr (by rw [k1]; rfl)
        · rw [he, word_ok, N.bind_ok, pm_ok]
        · have hq' := of_decide_eq_true hq
          have e1 : e < ws.length := wa_in (by rcases hq' with q | q <;> rw [q] <;> simp)
          have b1 := pre_succ (f := bW) e1
          rw [show bW (wa ws e) = 0 by rcases hq' with q | q <;> rw [q] <;> rfl, hs.b] at b1
          obtain ⟨w3, w4⟩ := ok.wa e
          rw [he, N.s_ok, N.ix_ok (k := e) (x := S (wa ws e)) (by rw [List.getElem?_map, List.getElem?_eq_getElem e1, wa_lt e1]; rfl), N.bind_ok, lit_m, eq_S w3 ok1, N.s_ok, show ((e : Int) + 1) = ((e + 1 : Nat) : Int) by omega]
          have fin : ∀ nm : PySem.Str, (N.s (nr_product_at k (ws.map S) ((e + 1 : Nat) : Int)) (fun other'1 => N.s (N.ok ((D.tup [(D.str nm), s.1, other'1.1]), other'1.2)) fun found'2 => (NS.nx found'2 : NS (D × Int) (D × Int) (D × Int)))) = .ex "NoRow" ∨ ∃ s' e', (N.s (nr_product_at k (ws.map S) ((e + 1 : Nat) : Int)) (fun other'1 => N.s (N.ok ((D.tup [(D.str nm), s.1, other'1.1]), other'1.2)) fun found'2 => (NS.nx found'2 : NS (D × Int) (D × Int) (D × Int)))) = .nx s' ∧ s'.2 = ((e' : Nat) : Int) ∧ e < e' ∧ Seg ws i e' := fun nm => by
            rcases hQ (e + 1) d (by omega) h1 (by omega) with ⟨t2, e2, r2, g2⟩ | r2
            · exact .inr ⟨_, e2, by rw [r2]; rfl, rfl, by have := hs.lt; have := g2.lt; omega, seg_op hs (.inr hq') g2⟩
            · exact .inl (by rw [r2]; rfl)
          by_cases c : wa ws e = [45]
          · rw [decide_eq_true c]; exact fin "minus"
          · rw [decide_eq_false c]; exact fin "plus"
      · rw [r]; exact .inr rfl
end Q
end Lw
namespace Lw
open Bn
namespace Q
open SX (S S_len S_cat S_beq_eq)
open PySem.NumText (AllDigits digitsVal)
def AtW (a : Wd) (t : D) : Prop := (nameB a = true ∧ t = .tup [.str "name", .str (S a)]) ∨ (nameB a = false ∧ ∃ x y, nu a = some (x, y) ∧ t = .tup [.str "number", .int x, .int y])
inductive Pc : D → List Wd → Nat → Nat → Prop
  | at {a : Wd} {t : D} : AtW a t → (∀ c ∈ a, c < 1114112) → a.length ≤ 1000 → Pc t [a] 3 0
  | shut {t : D} {ws : List Wd} {l d : Nat} : Pc t ws l d → Pc t ([[40]] ++ ws ++ [[41]]) 3 (d + 1)
  | times {t1 t2 : D} {w1 w2 : List Wd} {l1 l2 d1 d2 : Nat} : Pc t1 w1 l1 d1 → 1 ≤ l1 → Pc t2 w2 l2 d2 → 2 ≤ l2 → Pc (.tup [.str "times", t1, t2]) (w1 ++ [[42]] ++ w2) 1 (max d1 d2)
  | plus {t1 t2 : D} {w1 w2 : List Wd} {l1 l2 d1 d2 : Nat} : Pc t1 w1 l1 d1 → Pc t2 w2 l2 d2 → 1 ≤ l2 → Pc (.tup [.str "plus", t1, t2]) (w1 ++ [[43]] ++ w2) 0 (max d1 d2)
  | minus {t1 t2 : D} {w1 w2 : List Wd} {l1 l2 d1 d2 : Nat} : Pc t1 w1 l1 d1 → Pc t2 w2 l2 d2 → 1 ≤ l2 → Pc (.tup [.str "minus", t1, t2]) (w1 ++ [[45]] ++ w2) 0 (max d1 d2)
  | power {t : D} {ws : List Wd} {d : Nat} {a : Wd} {n : Int} : Pc t ws 3 d → powL a = some n → Pc (.tup [.str "power", t, .int n]) (ws ++ [[94], a]) 2 d
theorem atw_no {a : Wd} {t : D} (h : AtW a t) : sgnB a = false ∧ a ≠ [] := by
  have g : nameB a = true ∨ (nu a).isSome = true := by
    rcases h with ⟨h, _⟩ | ⟨_, x, y, h, _⟩
    · exact .inl h
    · exact .inr (by rw [h]; rfl)
  refine ⟨?_, fun q => ?_⟩
  · cases e : sgnB a with
    | false => rfl
    | true =>
      obtain ⟨h1, h2⟩ := sgn_no e
      rw [h1, h2] at g
      rcases g with g | g <;> cases g
  · subst q
    rw [show nameB [] = false by decide +kernel, show nu [] = none by decide +kernel] at g
    rcases g with g | g <;> cases g
theorem wa_app {pr ws rest : List Wd} {j : Nat} (h : j < ws.length) : wa (pr ++ (ws ++ rest)) (pr.length + j) = wa ws j := by
  unfold wa
  rw [List.getD_eq_getElem?_getD, List.getD_eq_getElem?_getD, List.getElem?_append_right (by omega), Nat.add_sub_cancel_left, List.getElem?_append_left h]
theorem wa_end {pr rest : List Wd} : wa (pr ++ rest) pr.length = wa rest 0 := by
  unfold wa
  rw [List.getD_eq_getElem?_getD, List.getD_eq_getElem?_getD, List.getElem?_append_right (Nat.le_refl _), Nat.sub_self]
def AtP (t : D) (ws : List Wd) (b : Nat) (r : Nat → List PySem.Str → Int → N (D × Int)) (no : List Wd) : Prop :=
  ∀ (pr rest : List Wd) (k : Nat), WOk (pr ++ (ws ++ rest)) → wa rest 0 ∉ no → b ≤ k → r k ((pr ++ (ws ++ rest)).map S) (pr.length : Int) = .ok (t, ((pr.length + ws.length : Nat) : Int))
theorem split_wd {pr ws rest : List Wd} : pr ++ (ws ++ rest) = (pr ++ ws) ++ rest := (List.append_assoc _ _ _).symm
theorem at_at {a : Wd} {t : D} (h : AtW a t) : AtP t [a] 1 nr_atom_at [] := fun pr rest k ok _ hk => by
  obtain ⟨k, rfl⟩ : ∃ j, k = j + 1 := ⟨k - 1, by omega⟩
  obtain ⟨s1, s2⟩ := atw_no h
  have e : wa (pr ++ ([a] ++ rest)) pr.length = a := by
    have := wa_app (pr := pr) (ws := [a]) (rest := rest) (j := 0) (by simp)
    exact this
  unfold nr_atom_at
  obtain ⟨w1, w2⟩ := ok.wa pr.length
  rw [e] at w1 w2
  rw [word_ok, e, N.s_ok, lit_lp, eq_S w1 ok1, N.s_ok, decide_eq_false (fun q => by rw [q] at s1; cases s1), if_neg (by decide), name_ok w1 w2, N.s_ok]
  rcases h with ⟨h, rfl⟩ | ⟨h, x, y, h2, rfl⟩
  · rw [h]; rfl
  · rw [h, if_neg (by decide), number_ok w1 w2, h2]; rfl
theorem at_shut {t : D} {ws : List Wd} {b : Nat} (h : AtP t ws b nr_sum_at [[94], [42], [43], [45]]) : AtP t ([[40]] ++ ws ++ [[41]]) (b + 1) nr_atom_at [] := fun pr rest k ok _ hk => by
  obtain ⟨k, rfl⟩ : ∃ j, k = j + 1 := ⟨k - 1, by omega⟩
  have e : wa (pr ++ ([[40]] ++ ws ++ [[41]] ++ rest)) pr.length = [40] := by
    rw [wa_end]; rfl
  have eq1 : pr ++ ([[40]] ++ ws ++ [[41]] ++ rest) = (pr ++ [[40]]) ++ (ws ++ ([[41]] ++ rest)) := by simp [List.append_assoc]
  unfold nr_atom_at
  obtain ⟨w1, w2⟩ := ok.wa pr.length
  rw [e] at w1 w2
  have hs := h (pr ++ [[40]]) ([[41]] ++ rest) k (by rw [← eq1]; exact ok) (by show [41] ∉ _; decide) (by omega)
  have e2 : wa (pr ++ ([[40]] ++ ws ++ [[41]] ++ rest)) ((pr ++ [[40]]).length + ws.length) = [41] := by
    rw [eq1, split_wd, ← List.length_append, wa_end]; rfl
  rw [word_ok, e, N.s_ok, lit_lp, eq_S w1 ok1, N.s_ok, decide_eq_true rfl, if_pos rfl]
  rw [show ((pr.length : Int) + 1) = (((pr ++ [[40]]).length : Nat) : Int) by simp, eq1, hs, N.s_ok, ← eq1]
  rw [word_ok, e2, N.bind_ok, lit_rp, ne_S ok1 ok1, N.s_ok, decide_eq_true rfl]
  show N.ok _ = _
  refine congrArg N.ok (Prod.ext rfl ?_)
  show ((((pr ++ [[40]]).length + ws.length : Nat) : Int) + 1) = _
  simp; omega
theorem pw_at {t : D} {ws : List Wd} {b : Nat} (h : AtP t ws b nr_atom_at []) : AtP t ws (b + 1) nr_power_at [[94]] := fun pr rest k ok hr hk => by
  obtain ⟨k, rfl⟩ : ∃ j, k = j + 1 := ⟨k - 1, by omega⟩
  unfold nr_power_at
  have e2 : wa (pr ++ (ws ++ rest)) (pr.length + ws.length) = wa rest 0 := by rw [split_wd, ← List.length_append, wa_end]
  obtain ⟨w1, w2⟩ := ok.wa (pr.length + ws.length)
  rw [h pr rest k ok (by simp) (by omega), N.s_ok, word_ok, N.bind_ok, lit_ca, ne_S w1 ok1, N.s_ok, e2, decide_eq_false (fun q => hr (by rw [q]; simp))]
  rfl
theorem pw_pow {t : D} {ws : List Wd} {b : Nat} {a : Wd} {n : Int} (h : AtP t ws b nr_atom_at []) (hp : powL a = some n) : AtP (.tup [.str "power", t, .int n]) (ws ++ [[94], a]) (b + 1) nr_power_at [] := fun pr rest k ok hr hk => by
  obtain ⟨k, rfl⟩ : ∃ j, k = j + 1 := ⟨k - 1, by omega⟩
  unfold nr_power_at
  have eq1 : pr ++ (ws ++ [[94], a] ++ rest) = pr ++ (ws ++ ([[94], a] ++ rest)) := by simp [List.append_assoc]
  have e2 : wa (pr ++ (ws ++ [[94], a] ++ rest)) (pr.length + ws.length) = [94] := by rw [eq1, split_wd, ← List.length_append, wa_end]; rfl
  have e3 : wa (pr ++ (ws ++ [[94], a] ++ rest)) (pr.length + ws.length + 1) = a := by
    rw [eq1, split_wd, ← List.length_append]
    have := wa_app (pr := pr ++ ws) (ws := [[94], a]) (rest := rest) (j := 1) (by simp)
    exact this
  have ha := h pr ([[94], a] ++ rest) k (by rw [← eq1]; exact ok) (by simp) (by omega)
  rw [← eq1] at ha
  rw [ha, N.s_ok, word_ok, N.bind_ok, lit_ca, e2, ne_S ok1 ok1, N.s_ok, decide_eq_true rfl]
  show NS.f (N.s (n_word_at _ (((pr.length + ws.length : Nat) : Int) + 1)) _) = _
  rw [show (((pr.length + ws.length : Nat) : Int) + 1) = ((pr.length + ws.length + 1 : Nat) : Int) by omega, word_ok, e3, N.s_ok]
  unfold kdInN kdIxN
  rw [pow_get, hp]
  show N.ok _ = _
  refine congrArg N.ok (Prod.ext rfl ?_)
  show (((pr.length + ws.length : Nat) : Int) + 2) = _
  simp; omega
noncomputable abbrev cT (W : List PySem.Str) : D × Int → N Bool := fun (s317 : (D × Int)) => (N.bind (n_word_at W s317.2) fun x319 => (N.gb (gEq (D.str x319) (D.str ("*" : PySem.Str)))))
noncomputable abbrev bT (k : Nat) (W : List PySem.Str) : D × Int → NS (D × Int) (D × Int) (D × Int) := fun (s317 : (D × Int)) => N.s ((nr_power_at k) W (s317.2 + 1)) fun other'1 => N.s (N.ok ((D.tup [(D.str ("times" : PySem.Str)), s317.1, other'1.1]), other'1.2)) fun found'2 => NS.nx found'2
noncomputable abbrev cS (W : List PySem.Str) : D × Int → N Bool := fun (s321 : (D × Int)) => (N.bind (n_word_at W s321.2) fun x326 => (N.gb (gIn false (D.str x326) (D.tup [(D.str ("+" : PySem.Str)), (D.str ("-" : PySem.Str))]))))
noncomputable abbrev bS (k : Nat) (W : List PySem.Str) : D × Int → NS (D × Int) (D × Int) (D × Int) := fun (s321 : (D × Int)) =>
N.s (N.ok ("plus" : PySem.Str)) fun name'3 =>
NS.s (
N.s (N.bind (N.ix W s321.2) fun x327 => (N.gb (gEq (D.str x327) (D.str ("-" : PySem.Str))))) fun b329 => if b329 = true then
N.s (N.ok ("minus" : PySem.Str)) fun name'5 =>
NS.nx name'5
else
NS.nx name'3) fun s328 =>
N.s ((nr_product_at k) W (s321.2 + 1)) fun other'1 =>
N.s (N.ok ((D.tup [(D.str s328), s321.1, other'1.1]), other'1.2)) fun found'2 =>
NS.nx found'2
abbrev LR := NS (D × Int) Unit (D × Int)
def PrL (t : D) (ws : List Wd) (b : Nat) : Prop := ∀ (pr rest : List Wd) (k m : Nat) (r : LR), WOk (pr ++ (ws ++ rest)) → wa rest 0 ∉ [[94]] → b ≤ k + 1 → m + ws.length ≤ 1000 →
  (∀ f, m ≤ f → (whileN (cT ((pr ++ (ws ++ rest)).map S)) (bT k ((pr ++ (ws ++ rest)).map S)) f (t, ((pr.length + ws.length : Nat) : Int)) : LR) = r) →
  nr_product_at (k + 1) ((pr ++ (ws ++ rest)).map S) (pr.length : Int) = NS.f (NS.s r fun s => NS.rt (σ := Unit) s)
def SuL (t : D) (ws : List Wd) (b : Nat) : Prop := ∀ (pr rest : List Wd) (k m : Nat) (r : LR), WOk (pr ++ (ws ++ rest)) → wa rest 0 ∉ [[94], [42]] → b ≤ k + 1 → m + ws.length ≤ 1000 →
  (∀ f, m ≤ f → (whileN (cS ((pr ++ (ws ++ rest)).map S)) (bS k ((pr ++ (ws ++ rest)).map S)) f (t, ((pr.length + ws.length : Nat) : Int)) : LR) = r) →
  nr_sum_at (k + 1) ((pr ++ (ws ++ rest)).map S) (pr.length : Int) = NS.f (NS.s r fun s => NS.rt (σ := Unit) s)
theorem prl_pw {t : D} {ws : List Wd} {b : Nat} (h : AtP t ws b nr_power_at [[94]]) : PrL t ws (b + 1) := fun pr rest k m r ok hr hk hm hl => by
  unfold nr_product_at
  rw [h pr rest k ok hr (by omega), N.s_ok]
  exact congrArg (fun x => NS.f (NS.s x fun s => NS.rt (σ := Unit) s)) (hl fuelN (by have := fuel_1000; omega))
theorem prl_times {t1 t2 : D} {w1 w2 : List Wd} {b1 b2 : Nat} (h1 : PrL t1 w1 b1) (h2 : AtP t2 w2 b2 nr_power_at [[94]]) : PrL (.tup [.str "times", t1, t2]) (w1 ++ [[42]] ++ w2) (max b1 (b2 + 1)) := fun pr rest k m r ok hr hk hm hl => by
  have eq1 : pr ++ (w1 ++ [[42]] ++ w2 ++ rest) = pr ++ (w1 ++ ([[42]] ++ (w2 ++ rest))) := by simp [List.append_assoc]
  have eq2 : pr ++ (w1 ++ [[42]] ++ w2 ++ rest) = (pr ++ (w1 ++ [[42]])) ++ (w2 ++ rest) := by simp [List.append_assoc]
  have e2 : wa (pr ++ (w1 ++ [[42]] ++ w2 ++ rest)) (pr.length + w1.length) = [42] := by rw [eq1, split_wd, ← List.length_append, wa_end]; rfl
  have l3 : (w1 ++ [[42]] ++ w2).length = w1.length + 1 + w2.length := by rw [List.length_append, List.length_append]; rfl
  have p2 := h2 (pr ++ (w1 ++ [[42]])) rest k (by rw [← eq2]; exact ok) hr (by omega)
  rw [← eq2] at p2
  have go := h1 pr ([[42]] ++ (w2 ++ rest)) k (m + 1) r (by rw [← eq1]; exact ok) (by show [42] ∉ _; decide) (by omega) (by omega)
  rw [← eq1] at go
  refine go fun f hf => ?_
  obtain ⟨f, rfl⟩ : ∃ j, f = j + 1 := ⟨f - 1, by omega⟩
  refine (whileN_step (s' := (.tup [.str "times", t1, t2], ((pr.length + (w1 ++ [[42]] ++ w2).length : Nat) : Int))) ?_ ?_).trans (hl f (by omega))
  · show (N.bind (n_word_at _ ((pr.length + w1.length : Nat) : Int)) _) = _
    rw [word_ok, e2, N.bind_ok, lit_ti, eq_S ok1 ok1, decide_eq_true rfl]
  · show (N.s (nr_power_at k _ (((pr.length + w1.length : Nat) : Int) + 1)) _) = _
    rw [show (((pr.length + w1.length : Nat) : Int) + 1) = (((pr ++ (w1 ++ [[42]])).length : Nat) : Int) by simp; omega, p2]
    refine congrArg NS.nx (Prod.ext rfl ?_)
    show (((pr ++ (w1 ++ [[42]])).length + w2.length : Nat) : Int) = _
    simp; omega
theorem prl_at {t : D} {ws : List Wd} {b : Nat} (h : PrL t ws b) (hw : ws.length < 1000) : AtP t ws (max b 1) nr_product_at [[94], [42]] := fun pr rest k ok hr hk => by
  obtain ⟨k, rfl⟩ : ∃ j, k = j + 1 := ⟨k - 1, by omega⟩
  have e2 : wa (pr ++ (ws ++ rest)) (pr.length + ws.length) = wa rest 0 := by rw [split_wd, ← List.length_append, wa_end]
  refine (h pr rest k 1 (.nx (t, ((pr.length + ws.length : Nat) : Int))) ok (fun q => hr (List.mem_cons.mpr (.inl (List.mem_singleton.mp q)))) (by omega) (by omega) fun f hf => ?_).trans rfl
  obtain ⟨f, rfl⟩ : ∃ j, f = j + 1 := ⟨f - 1, by omega⟩
  refine whileN_end ?_
  obtain ⟨w1, w2⟩ := ok.wa (pr.length + ws.length)
  show (N.bind (n_word_at _ ((pr.length + ws.length : Nat) : Int)) _) = _
  rw [word_ok, N.bind_ok, lit_ti, eq_S w1 ok1, e2, decide_eq_false (fun q => hr (by rw [q]; simp))]
theorem sul_pr {t : D} {ws : List Wd} {b : Nat} (h : PrL t ws b) (hw : ws.length < 1000) : SuL t ws (max b 1 + 1) := fun pr rest k m r ok hr hk hm hl => by
  unfold nr_sum_at
  rw [prl_at h hw pr rest k ok hr (by omega), N.s_ok]
  exact congrArg (fun x => NS.f (NS.s x fun s => NS.rt (σ := Unit) s)) (hl fuelN (by have := fuel_1000; omega))
theorem sul_pm {t1 t2 : D} {w1 w2 : List Wd} {b1 b2 : Nat} {o : Wd} {nm : PySem.Str} (ho : (o = [43] ∧ nm = "plus") ∨ (o = [45] ∧ nm = "minus")) (h1 : SuL t1 w1 b1) (h2 : PrL t2 w2 b2) : SuL (.tup [.str nm, t1, t2]) (w1 ++ [o] ++ w2) (max b1 (max b2 1 + 1)) := fun pr rest k m r ok hr hk hm hl => by
  have eq1 : pr ++ (w1 ++ [o] ++ w2 ++ rest) = pr ++ (w1 ++ ([o] ++ (w2 ++ rest))) := by simp [List.append_assoc]
  have eq2 : pr ++ (w1 ++ [o] ++ w2 ++ rest) = (pr ++ (w1 ++ [o])) ++ (w2 ++ rest) := by simp [List.append_assoc]
  have e2 : wa (pr ++ (w1 ++ [o] ++ w2 ++ rest)) (pr.length + w1.length) = o := by rw [eq1, split_wd, ← List.length_append, wa_end]; rfl
  have l3 : (w1 ++ [o] ++ w2).length = w1.length + 1 + w2.length := by rw [List.length_append, List.length_append]; rfl
  have p2 := prl_at h2 (by omega) (pr ++ (w1 ++ [o])) rest k (by rw [← eq2]; exact ok) hr (by omega)
  rw [← eq2] at p2
  have go := h1 pr ([o] ++ (w2 ++ rest)) k (m + 1) r (by rw [← eq1]; exact ok) (by show o ∉ _; rcases ho with ⟨rfl, _⟩ | ⟨rfl, _⟩ <;> decide) (by omega) (by omega)
  rw [← eq1] at go
  refine go fun f hf => ?_
  obtain ⟨f, rfl⟩ : ∃ j, f = j + 1 := ⟨f - 1, by omega⟩
  have o1 : ∀ c ∈ o, c < 1114112 := by rcases ho with ⟨rfl, _⟩ | ⟨rfl, _⟩ <;> exact ok1
  refine (whileN_step (s' := (.tup [.str nm, t1, t2], ((pr.length + (w1 ++ [o] ++ w2).length : Nat) : Int))) ?_ ?_).trans (hl f (by omega))
  · show (N.bind (n_word_at _ ((pr.length + w1.length : Nat) : Int)) _) = _
    rw [word_ok, e2, N.bind_ok, pm_ok, decide_eq_true (by rcases ho with ⟨rfl, _⟩ | ⟨rfl, _⟩ <;> decide)]
  · have hi : pr.length + w1.length < (pr ++ (w1 ++ [o] ++ w2 ++ rest)).length := by rw [List.length_append, List.length_append, l3]; omega
    have hx : N.ix ((pr ++ (w1 ++ [o] ++ w2 ++ rest)).map S) ((pr.length + w1.length : Nat) : Int) = .ok (S o) := N.ix_ok (by rw [List.getElem?_map, List.getElem?_eq_getElem hi, ← wa_lt hi, e2]; rfl)
    show N.s (N.ok ("plus" : PySem.Str)) _ = _
    rw [N.s_ok, hx, N.bind_ok, lit_m, eq_S o1 ok1, N.s_ok]
    have fin : ∀ z : PySem.Str, z = nm → (N.s (nr_product_at k ((pr ++ (w1 ++ [o] ++ w2 ++ rest)).map S) (((pr.length + w1.length : Nat) : Int) + 1)) fun other'1 => N.s (N.ok ((D.tup [(D.str z), t1, other'1.1]), other'1.2)) fun found'2 => (NS.nx found'2 : NS (D × Int) (D × Int) (D × Int))) = .nx (.tup [.str nm, t1, t2], ((pr.length + (w1 ++ [o] ++ w2).length : Nat) : Int)) := fun z hz => by
      subst hz
      rw [show (((pr.length + w1.length : Nat) : Int) + 1) = (((pr ++ (w1 ++ [o])).length : Nat) : Int) by simp; omega, p2]
      refine congrArg NS.nx (Prod.ext rfl ?_)
      show (((pr ++ (w1 ++ [o])).length + w2.length : Nat) : Int) = _
      simp; omega
    rcases ho with ⟨rfl, rfl⟩ | ⟨rfl, rfl⟩
    · exact fin "plus" rfl
    · exact fin "minus" rfl
theorem sul_at {t : D} {ws : List Wd} {b : Nat} (h : SuL t ws b) (hw : ws.length < 1000) : AtP t ws (max b 1) nr_sum_at [[94], [42], [43], [45]] := fun pr rest k ok hr hk => by
  obtain ⟨k, rfl⟩ : ∃ j, k = j + 1 := ⟨k - 1, by omega⟩
  have e2 : wa (pr ++ (ws ++ rest)) (pr.length + ws.length) = wa rest 0 := by rw [split_wd, ← List.length_append, wa_end]
  refine (h pr rest k 1 (.nx (t, ((pr.length + ws.length : Nat) : Int))) ok (fun q => hr (by
    rcases List.mem_cons.mp q with q | q
    · rw [q]; simp
    · rw [List.mem_singleton.mp q]; simp)) (by omega) (by omega) fun f hf => ?_).trans rfl
  obtain ⟨f, rfl⟩ : ∃ j, f = j + 1 := ⟨f - 1, by omega⟩
  refine whileN_end ?_
  show (N.bind (n_word_at _ ((pr.length + ws.length : Nat) : Int)) _) = _
  rw [word_ok, N.bind_ok, pm_ok, e2, decide_eq_false (fun q => hr (by rcases q with q | q <;> rw [q] <;> simp))]
theorem wk_b {t : D} {ws : List Wd} {b c : Nat} {r : Nat → List PySem.Str → Int → N (D × Int)} {no no' : List Wd} (h : AtP t ws b r no) (hb : b ≤ c) (hn : ∀ x ∈ no, x ∈ no') : AtP t ws c r no' := fun pr rest k ok hr hk => h pr rest k ok (fun q => hr (hn _ q)) (by omega)
theorem PrL.mono {t : D} {ws : List Wd} {b c : Nat} (h : PrL t ws b) (hb : b ≤ c) : PrL t ws c := fun pr rest k m r ok hr hk => h pr rest k m r ok hr (by omega)
theorem SuL.mono {t : D} {ws : List Wd} {b c : Nat} (h : SuL t ws b) (hb : b ≤ c) : SuL t ws c := fun pr rest k m r ok hr hk => h pr rest k m r ok hr (by omega)
theorem pc_read {t : D} {ws : List Wd} {l d : Nat} (p : Pc t ws l d) (hw : ws.length < 1000) : (l = 3 → AtP t ws (4 * d + 1) nr_atom_at []) ∧ (2 ≤ l → AtP t ws (4 * d + 2) nr_power_at [[94]]) ∧ (1 ≤ l → PrL t ws (4 * d + 3)) ∧ SuL t ws (4 * d + 4) := by
  have from3 : ∀ {t : D} {ws : List Wd} {d : Nat}, ws.length < 1000 → AtP t ws (4 * d + 1) nr_atom_at [] → (3 = 3 → AtP t ws (4 * d + 1) nr_atom_at []) ∧ (2 ≤ 3 → AtP t ws (4 * d + 2) nr_power_at [[94]]) ∧ (1 ≤ 3 → PrL t ws (4 * d + 3)) ∧ SuL t ws (4 * d + 4) := fun hw h =>
    ⟨fun _ => h, fun _ => pw_at h, fun _ => prl_pw (pw_at h), (sul_pr (prl_pw (pw_at h)) hw).mono (by omega)⟩
  induction p with
  | «at» h _ _ => exact from3 hw (at_at h)
  | @shut t ws l d p ih =>
    have l3 : ([[40]] ++ ws ++ [[41]]).length = ws.length + 2 := by rw [List.length_append, List.length_append]; show 1 + ws.length + 1 = _; omega
    exact from3 hw (wk_b (at_shut (sul_at (ih (by omega)).2.2.2 (by omega))) (by omega) fun _ h => h)
  | @times t1 t2 w1 w2 l1 l2 d1 d2 p1 h1 p2 h2 ih1 ih2 =>
    have l3 : (w1 ++ [[42]] ++ w2).length = w1.length + 1 + w2.length := by rw [List.length_append, List.length_append]; rfl
    have q := (prl_times ((ih1 (by omega)).2.2.1 h1) ((ih2 (by omega)).2.1 h2)).mono (c := 4 * max d1 d2 + 3) (by omega)
    exact ⟨fun h => by omega, fun h => by omega, fun _ => q, (sul_pr q hw).mono (by omega)⟩
  | @plus t1 t2 w1 w2 l1 l2 d1 d2 p1 p2 h2 ih1 ih2 =>
    have l3 : (w1 ++ [[43]] ++ w2).length = w1.length + 1 + w2.length := by rw [List.length_append, List.length_append]; rfl
    exact ⟨fun h => by omega, fun h => by omega, fun h => by omega, (sul_pm (.inl ⟨rfl, rfl⟩) (ih1 (by omega)).2.2.2 ((ih2 (by omega)).2.2.1 h2)).mono (by omega)⟩
  | @minus t1 t2 w1 w2 l1 l2 d1 d2 p1 p2 h2 ih1 ih2 =>
    have l3 : (w1 ++ [[45]] ++ w2).length = w1.length + 1 + w2.length := by rw [List.length_append, List.length_append]; rfl
    exact ⟨fun h => by omega, fun h => by omega, fun h => by omega, (sul_pm (.inr ⟨rfl, rfl⟩) (ih1 (by omega)).2.2.2 ((ih2 (by omega)).2.2.1 h2)).mono (by omega)⟩
  | @power t ws d a n p hp ih =>
    have l3 : (ws ++ [[94], a]).length = ws.length + 2 := by simp
    have q := wk_b (no' := [[94]]) (pw_pow ((ih (by omega)).1 rfl) hp) (Nat.le_refl _) (fun _ h => by cases h)
    exact ⟨fun h => by omega, fun _ => q, fun _ => prl_pw q, (sul_pr (prl_pw q) hw).mono (by omega)⟩
end Q
end Lw
namespace Lw
open Bn
namespace Q
open SX (S S_len S_cat S_beq_eq)
open PySem.NumText (AllDigits digitsVal)
def lookB : Int → List Wd → Bool
  | _, [] => true
  | s, a :: r => if s + bW a < 0 ∨ 16 < s + bW a then false else lookB (s + bW a) r
theorem forN_nx {α σ κ ρ : Type} {b : α → σ → NS σ σ ρ} {x : α} {xs : List α} {s s' : σ} (h : b x s = .nx s') : (forN b (x :: xs) s : NS σ κ ρ) = forN b xs s' := by
  conv => lhs; unfold forN
  rw [h]
theorem forN_e {α σ κ ρ : Type} {b : α → σ → NS σ σ ρ} {x : α} {xs : List α} {s : σ} {c : PySem.Str} (h : b x s = .ex c) : (forN b (x :: xs) s : NS σ κ ρ) = .ex c := by
  unfold forN
  rw [h]
abbrev lookF : PySem.Str → Int → NS Int Int Unit := fun (word' : PySem.Str) (s205 : Int) =>
NS.s (
N.s (N.gb (gEq (D.str word') (D.str ("(" : PySem.Str)))) fun b213 => if b213 = true then
N.s (N.ok (s205 + 1)) fun deep'5 =>
NS.nx deep'5
else
NS.nx s205) fun s210 =>
NS.s (
N.s (N.gb (gEq (D.str word') (D.str (")" : PySem.Str)))) fun b212 => if b212 = true then
N.s (N.ok (s210 - 1)) fun deep'7 =>
NS.nx deep'7
else
NS.nx s210) fun s211 =>
if ((decide (s211 < 0)) || (decide (16 < s211))) = true then
NS.ex "NoRow"
else
NS.nx s211
theorem look_step {a : Wd} (w1 : ∀ c ∈ a, c < 1114112) (s : Int) : lookF (S a) s = if s + bW a < 0 ∨ 16 < s + bW a then .ex "NoRow" else .nx (s + bW a) := by
  have body : ∀ s1 : Int, s1 = s + bW a → (if (decide (s1 < 0) || decide (16 < s1)) = true then (NS.ex "NoRow" : NS Int Int Unit) else NS.nx s1) = if s + bW a < 0 ∨ 16 < s + bW a then .ex "NoRow" else .nx (s + bW a) := fun s1 e => by
    subst e
    by_cases c : s + bW a < 0 ∨ 16 < s + bW a
    · rw [if_pos c, if_pos]
      rcases c with c | c
      · rw [decide_eq_true c]; rfl
      · rw [decide_eq_true c, Bool.or_true]
    · rw [if_neg c, if_neg]
      rw [decide_eq_false (fun q => c (.inl q)), decide_eq_false (fun q => c (.inr q))]; decide
  unfold lookF
  rw [lit_lp, lit_rp, eq_S w1 ok1, eq_S w1 ok1]
  by_cases c1 : a = [40]
  · subst c1
    exact body (s + 1) rfl
  · by_cases c2 : a = [41]
    · subst c2
      exact body (s - 1) (by show s - 1 = s + -1; omega)
    · have hb : bW a = 0 := by unfold bW; rw [if_neg c1, if_neg c2]
      rw [decide_eq_false c1, decide_eq_false c2]
      exact body s (by rw [hb]; omega)
theorem look_for {κ : Type} : ∀ (ws : List Wd) (s : Int), WOk ws → (forN lookF (ws.map S) s : NS Int κ Unit) = if lookB s ws = true then .nx (s + cnt bW ws) else .ex "NoRow"
  | [], s, _ => by
    show NS.nx s = _
    rw [cnt_nil, Int.add_zero]; rfl
  | a :: r, s, ok => by
    obtain ⟨w1, w2⟩ := ok a List.mem_cons_self
    have st := look_step w1 s
    rw [List.map_cons]
    unfold lookB
    by_cases c : s + bW a < 0 ∨ 16 < s + bW a
    · rw [if_pos c] at st
      rw [if_pos c, forN_e st]; rfl
    · rw [if_neg c] at st
      rw [if_neg c, forN_nx st, look_for r (s + bW a) fun x hx => ok x (List.mem_cons_of_mem _ hx), cnt_cons, Int.add_assoc]
theorem look_ok {ws : List Wd} (ok : WOk ws) : n_look_at_brackets (ws.map S) = if lookB 0 ws = true then .ok () else .ex "NoRow" := by
  unfold n_look_at_brackets
  rw [N.s_ok]
  show NS.fz () (NS.s (forN lookF (ws.map S) 0) fun s214 => NS.nx (κ := Unit) ()) = _
  rw [look_for ws 0 ok]
  cases lookB 0 ws <;> rfl
theorem look_all : ∀ {ws : List Wd} {s : Int}, lookB s ws = true → ∀ i, i ≤ ws.length → 0 < i → 0 ≤ s + pre bW ws i ∧ s + pre bW ws i ≤ 16
  | [], s, _, i, hi, h0 => by simp at hi; omega
  | a :: r, s, h, i, hi, h0 => by
    unfold lookB at h
    by_cases c : s + bW a < 0 ∨ 16 < s + bW a
    · rw [if_pos c] at h; cases h
    · rw [if_neg c] at h
      obtain ⟨i, rfl⟩ : ∃ j, i = j + 1 := ⟨i - 1, by omega⟩
      have e : pre bW (a :: r) (i + 1) = bW a + pre bW r i := by unfold pre; rw [List.take_succ_cons, cnt_cons]
      rw [e]
      by_cases z : i = 0
      · subst z; rw [pre_zero]; omega
      · have := look_all h i (by simpa using hi) (by omega)
        omega
theorem look_of : ∀ {ws : List Wd} {s : Int}, (∀ i, i ≤ ws.length → 0 < i → 0 ≤ s + pre bW ws i ∧ s + pre bW ws i ≤ 16) → lookB s ws = true
  | [], s, _ => rfl
  | a :: r, s, h => by
    unfold lookB
    have e : ∀ i, pre bW (a :: r) (i + 1) = bW a + pre bW r i := fun i => by unfold pre; rw [List.take_succ_cons, cnt_cons]
    have h1 := h 1 (by simp) (by decide)
    rw [e 0, pre_zero] at h1
    rw [if_neg (by omega)]
    refine look_of fun i hi h0 => ?_
    have := h (i + 1) (by simpa using hi) (by omega)
    rw [e i] at this
    omega
structure Told (ws : List Wd) : Prop where
  v : cnt vW ws = 1
  b : cnt bW ws = 0
  good : ∀ a ∈ ws, Good a
  car : ∀ j, wa ws j = [94] → (powL (wa ws (j + 1))).isSome = true
theorem tree_of_any {ws : List Wd} (ok : WOk ws) (hn : ws.length ≤ 1000) : (∃ t, n_tree_of (ws.map S) = .ok t ∧ Told ws) ∨ n_tree_of (ws.map S) = .ex "NoRow" := by
  unfold n_tree_of
  rw [List.length_map]
  by_cases c : 120 < ws.length
  · rw [decide_eq_true (show (120 : Int) < (ws.length : Int) by omega), if_pos rfl]; exact .inr rfl
  · rw [decide_eq_false (show ¬ (120 : Int) < (ws.length : Int) by omega), if_neg (by decide), look_ok ok]
    cases lb : lookB 0 ws with
    | false => exact .inr rfl
    | true =>
      rw [if_pos rfl, N.s_ok]
      have hB : ∀ i, i ≤ ws.length → pre bW ws i ≤ 16 := fun i hi => by
        by_cases z : i = 0
        · subst z; rw [pre_zero]; decide
        · have := look_all lb i hi (by omega); omega
      have hs := (sound ok hn hB 68).2.2.2 0 0 rfl (by decide) (by decide)
      have e : n_sum_at (ws.map S) 0 = nr_sum_at 68 (ws.map S) ((0 : Nat) : Int) := by unfold n_sum_at; rfl
      rcases hs with ⟨t, e1, r, g⟩ | r
      · rw [e, r, N.s_ok]
        by_cases c2 : e1 = ws.length
        · subst c2
          rw [decide_eq_true rfl]
          refine .inl ⟨t, rfl, ?_, ?_, fun a ha => ?_, fun j hj => ?_⟩
          · have := g.v; rw [pre_all, pre_zero] at this; omega
          · have := g.b; rw [pre_all, pre_zero] at this; omega
          · obtain ⟨j, hj, rfl⟩ := List.getElem_of_mem ha
            rw [← wa_lt hj]; exact g.good j (by omega) hj
          · have hj' : j < ws.length := wa_in (by rw [hj]; simp)
            exact g.car j (by omega) hj' hj
        · rw [decide_eq_false (show ¬ ((e1 : Nat) : Int) = (ws.length : Int) by omega)]; exact .inr rfl
      · rw [e, r]; exact .inr rfl
theorem refused_ok {W : List PySem.Str} (h : n_tree_of W = .ex "NoRow") : n__law_refused W = .ok true := by
  unfold n__law_refused
  rw [h]; rfl
theorem no_read {ws : List Wd} (ok : WOk ws) (hn : ws.length ≤ 1000) (h : ¬ Told ws) : n__law_refused (ws.map S) = .ok true := by
  rcases tree_of_any ok hn with ⟨t, _, q⟩ | q
  · exact absurd q h
  · exact refused_ok q
theorem WOk.app {a b : List Wd} (h : WOk a) (k : WOk b) : WOk (a ++ b) := fun x hx => (List.mem_append.mp hx).elim (h x) (k x)
theorem WOk.left {a b : List Wd} (h : WOk (a ++ b)) : WOk a := fun x hx => h x (List.mem_append_left _ hx)
theorem WOk.right {a b : List Wd} (h : WOk (a ++ b)) : WOk b := fun x hx => h x (List.mem_append_right _ hx)
theorem wok1 {k : Nat} (h : k < 1114112 := by decide) : WOk [[k]] := fun x hx => by rw [List.mem_singleton.mp hx]; exact ⟨ok1 h, by simp⟩
theorem pc_wok {t : D} {ws : List Wd} {l d : Nat} (p : Pc t ws l d) : WOk ws := by
  induction p with
  | «at» h h1 h2 => exact fun x hx => by rw [List.mem_singleton.mp hx]; exact ⟨h1, h2⟩
  | shut p ih => exact (WOk.app (wok1 (k := 40)) ih).app wok1
  | times p1 h1 p2 h2 ih1 ih2 => exact (ih1.app wok1).app ih2
  | plus p1 p2 h2 ih1 ih2 => exact (ih1.app wok1).app ih2
  | minus p1 p2 h2 ih1 ih2 => exact (ih1.app wok1).app ih2
  | @power t ws d a n p hp ih =>
    refine ih.app fun x hx => ?_
    rcases List.mem_cons.mp hx with rfl | hx
    · exact ⟨ok1, by simp⟩
    · rw [List.mem_singleton.mp hx]
      rcases powL_some hp with rfl | rfl | rfl | rfl | rfl <;> exact ⟨ok1, by simp⟩
theorem pc_lead {t : D} {ws : List Wd} {l d : Nat} (p : Pc t ws l d) : ∃ m a tl t', ws = List.replicate m [40] ++ a :: tl ∧ AtW a t' := by
  have ext : ∀ {w : List Wd} (r : List Wd), (∃ m a tl t', w = List.replicate m [40] ++ a :: tl ∧ AtW a t') → ∃ m a tl t', w ++ r = List.replicate m [40] ++ a :: tl ∧ AtW a t' := fun r ⟨m, a, tl, t', e, h⟩ => ⟨m, a, tl ++ r, t', by rw [e, List.append_assoc]; rfl, h⟩
  induction p with
  | «at» h h1 h2 => exact ⟨0, _, [], _, rfl, h⟩
  | shut p ih =>
    refine ext _ ?_
    obtain ⟨m, a, tl, t', e, h⟩ := ih
    exact ⟨m + 1, a, tl, t', by rw [e]; rfl, h⟩
  | times p1 h1 p2 h2 ih1 ih2 => exact ext _ (ext _ ih1)
  | plus p1 p2 h2 ih1 ih2 => exact ext _ (ext _ ih1)
  | minus p1 p2 h2 ih1 ih2 => exact ext _ (ext _ ih1)
  | power p hp ih => exact ext _ ih
def BrD (ws : List Wd) (d : Nat) : Prop := cnt bW ws = 0 ∧ ∀ i, 0 ≤ pre bW ws i ∧ pre bW ws i ≤ d
theorem pre_app (f : Wd → Int) (a b : List Wd) (i : Nat) : pre f (a ++ b) i = if i ≤ a.length then pre f a i else cnt f a + pre f b (i - a.length) := by
  unfold pre
  rw [List.take_append, cnt_app]
  by_cases h : i ≤ a.length
  · rw [if_pos h, Nat.sub_eq_zero_of_le h]
    show _ + cnt f [] = _
    rw [cnt_nil]; omega
  · rw [if_neg h, List.take_of_length_le (by omega)]
theorem BrD.app {a b : List Wd} {d e : Nat} (h : BrD a d) (k : BrD b e) : BrD (a ++ b) (max d e) := by
  refine ⟨by rw [cnt_app, h.1, k.1]; rfl, fun i => ?_⟩
  rw [pre_app]
  have := h.2 i
  have := k.2 (i - a.length)
  have := h.1
  split <;> omega
theorem brd_one {a : Wd} (h : bW a = 0) : BrD [a] 0 := by
  refine ⟨by rw [cnt_cons, h]; rfl, fun i => ?_⟩
  unfold pre
  cases i with
  | zero => exact ⟨Int.le_refl _, Int.le_refl _⟩
  | succ i => rw [List.take_succ_cons, cnt_cons, h, List.take_nil]; exact ⟨Int.le_refl _, Int.le_refl _⟩
theorem BrD.shut {a : List Wd} {d : Nat} (h : BrD a d) : BrD ([[40]] ++ a ++ [[41]]) (d + 1) := by
  have e1 : bW [40] = 1 := rfl
  have e2 : bW [41] = -1 := rfl
  refine ⟨by rw [cnt_app, cnt_app, h.1, cnt_cons, cnt_cons, e1, e2]; rfl, fun i => ?_⟩
  rw [pre_app, pre_app, cnt_app, h.1]
  have p1 : ∀ j, (pre bW [[40]] j = 0 ∨ pre bW [[40]] j = 1) := fun j => by
    unfold pre
    cases j with
    | zero => exact .inl rfl
    | succ j => rw [List.take_succ_cons, List.take_nil]; exact .inr rfl
  have p2 : ∀ j, (pre bW [[41]] j = 0 ∨ pre bW [[41]] j = -1) := fun j => by
    unfold pre
    cases j with
    | zero => exact .inl rfl
    | succ j => rw [List.take_succ_cons, List.take_nil]; exact .inr rfl
  have p3 : cnt bW [[40]] = 1 := rfl
  rw [p3]
  have q1 := p1 i
  have q2 := p2 (i - ([[40]] ++ a).length)
  have q3 := h.2 (i - [[40]].length)
  split
  · split <;> omega
  · omega
theorem BrD.mono {a : List Wd} {d e : Nat} (h : BrD a d) (k : d ≤ e) : BrD a e := ⟨h.1, fun i => by have := h.2 i; omega⟩
theorem pc_brd {t : D} {ws : List Wd} {l d : Nat} (p : Pc t ws l d) : BrD ws d := by
  induction p with
  | «at» h h1 h2 => exact brd_one (vW_atom (atw_no h).1).2
  | shut p ih => exact ih.shut
  | times p1 h1 p2 h2 ih1 ih2 => exact ((ih1.app (brd_one rfl)).app ih2).mono (by omega)
  | plus p1 p2 h2 ih1 ih2 => exact ((ih1.app (brd_one rfl)).app ih2).mono (by omega)
  | minus p1 p2 h2 ih1 ih2 => exact ((ih1.app (brd_one rfl)).app ih2).mono (by omega)
  | @power t ws d a n p hp ih =>
    have : BrD ([[94], a] : List Wd) 0 := ((brd_one (a := [94]) rfl).app (brd_one (pow_word hp).2.1)).mono (by omega)
    exact (ih.app this).mono (by omega)
theorem tree_ok {t : D} {ws : List Wd} {l d : Nat} (p : Pc t ws l d) (hw : ws.length ≤ 120) (hd : d ≤ 16) : n_tree_of (ws.map S) = .ok t := by
  have ok := pc_wok p
  have br := pc_brd p
  unfold n_tree_of
  rw [List.length_map, decide_eq_false (show ¬ (120 : Int) < (ws.length : Int) by omega), if_neg (by decide), look_ok ok, look_of (fun i hi h0 => by have := br.2 i; omega), if_pos rfl, N.s_ok]
  have h := sul_at (pc_read p (by omega)).2.2.2 (by omega) [] [] 68 (by rw [List.append_nil]; exact ok) (by show [] ∉ _; decide) (by omega)
  rw [List.nil_append, List.append_nil] at h
  have e : n_sum_at (ws.map S) 0 = nr_sum_at 68 (ws.map S) ((([] : List Wd).length : Nat) : Int) := by unfold n_sum_at; rfl
  rw [e, h, N.s_ok]
  show NS.f (if (!decide (((([] : List Wd).length + ws.length : Nat) : Int) = (ws.length : Int))) = true then _ else _) = _
  rw [decide_eq_true (by simp)]; rfl
end Q
end Lw
namespace Lw
open Bn
namespace Q
open SX (S S_len S_cat S_beq_eq)
open PySem.NumText (AllDigits digitsVal)
theorem gix_t0 {d : D} (r : List D) (z : isFz d = true) : N.gix (.tup (d :: r)) 0 = .ok d := by unfold N.gix; rw [vIx0]; exact if_pos z
theorem gix_t1 (c : D) {d : D} (r : List D) (z : isFz d = true) : N.gix (.tup (c :: d :: r)) 1 = .ok d := by unfold N.gix; rw [vIx1]; exact if_pos z
theorem gix_t2 (b c : D) {d : D} (r : List D) (z : isFz d = true) : N.gix (.tup (b :: c :: d :: r)) 2 = .ok d := by
  have e : gIx (.tup (b :: c :: d :: r)) (.int 2) = some d := by
    exact vIxT (b :: c :: d :: r) 2
  unfold N.gix; rw [e]; exact if_pos z
theorem isi_tup (xs : List D) : N.gb (gIsi [.tup xs, .ty "tuple"]) = .ok true := by unfold N.gb; rfl
theorem len_tup (xs : List D) : N.gi (gLen [.tup xs]) = .ok (xs.length : Int) := by unfold N.gi; rfl
theorem ne_self {s : PySem.Str} (h : PySem.PyData.strOk s = true) : N.gb (gNe (.str s) (.str s)) = .ok false := by
  rw [vNeS h h, beq_self_eq_true]; unfold N.gb; rfl
theorem eq_self {s : PySem.Str} (h : PySem.PyData.strOk s = true) : N.gb (gEq (.str s) (.str s)) = .ok true := by
  rw [vEqS h h, beq_self_eq_true]; unfold N.gb; rfl
theorem eq_no {s z : PySem.Str} (h : PySem.PyData.strOk s = true) (k : PySem.PyData.strOk z = true) (e : (s == z) = false) : N.gb (gEq (.str s) (.str z)) = .ok false := by
  rw [vEqS h k, e]; unfold N.gb; rfl
theorem whole_int (i : Int) : n__law_whole (.int i) = .ok true := by
  unfold n__law_whole
  have e1 : N.gb (gIsi [.int i, .ty "int"]) = .ok true := by unfold N.gb; rfl
  have e2 : N.gb (gIsi [.int i, .ty "bool"]) = .ok false := by unfold N.gb; rfl
  rw [e1, e2]; rfl
theorem or_ff {v w : N Bool} (h : v = .ok false) (k : w = .ok false) : N.or v w = .ok false := by rw [h, k]; rfl
theorem alike_head {s : PySem.Str} {r : List D} (h : PySem.PyData.strOk s = true) : (N.or (N.not (N.gb (gIsi [.tup (.str s :: r), .ty "tuple"]))) (N.or (N.bind (N.gi (gLen [.tup (.str s :: r)])) fun x331 => N.bind (N.gi (gLen [.tup (.str s :: r)])) fun x332 => N.ok (!decide (x331 = x332))) (N.bind (N.gix (.tup (.str s :: r)) 0) fun x333 => N.bind (N.gix (.tup (.str s :: r)) 0) fun x334 => (N.gb (gNe x333 x334))))) = .ok false := by
  refine or_ff (by rw [isi_tup]; rfl) (or_ff ?_ ?_)
  · rw [len_tup]
    show N.ok (!decide _) = _
    rw [decide_eq_true rfl]; rfl
  · rw [gix_t0 r rfl, N.bind_ok, N.bind_ok, ne_self h]
def Alk (n : Nat) (t : D) : Prop := ∀ k, n ≤ k → nr__law_alike k t t = .ok true
theorem alk_name {a : Wd} (h : ∀ c ∈ a, c < 1114112) : Alk 1 (.tup [.str "name", .str (S a)]) := fun k hk => by
  obtain ⟨k, rfl⟩ : ∃ j, k = j + 1 := ⟨k - 1, by omega⟩
  unfold nr__law_alike
  have e1 : N.gb (gIsi [.str (S a), .ty "str"]) = .ok true := by unfold N.gb; rfl
  rw [alike_head (by decide +kernel), N.s_ok, if_neg (by decide), gix_t0 _ rfl, N.bind_ok, eq_self (by decide +kernel), N.s_ok, if_pos rfl, gix_t1 _ _ rfl, N.bind_ok, e1, N.bind_ok, N.bind_ok, eq_self (sok h)]
  rfl
theorem alk_num (x y : Int) : Alk 1 (.tup [.str "number", .int x, .int y]) := fun k hk => by
  obtain ⟨k, rfl⟩ : ∃ j, k = j + 1 := ⟨k - 1, by omega⟩
  unfold nr__law_alike
  have o : Ok 1 (.tup [.str "number", .int x, .int y]) := ok_tup fun d hd => by
    simp only [List.mem_cons, List.not_mem_nil, or_false] at hd
    rcases hd with rfl | rfl | rfl
    · exact ok_str (by decide +kernel)
    · exact ok_int _
    · exact ok_int _
  have e1 : N.gb (gEq (.tup [.str "number", .int x, .int y]) (.tup [.str "number", .int x, .int y])) = .ok true := by rw [vEqX o o rfl]; unfold N.gb; rfl
  rw [alike_head (by decide +kernel), N.s_ok, if_neg (by decide), gix_t0 _ rfl, N.bind_ok, eq_no (by decide +kernel) (by decide +kernel) (by decide +kernel), N.s_ok, if_neg (by decide), N.bind_ok, eq_self (by decide +kernel), N.s_ok, if_pos rfl, gix_t1 _ _ rfl, N.bind_ok, whole_int, gix_t2 _ _ _ rfl, N.bind_ok, whole_int, e1]
  rfl
theorem alk_pow {t : D} {n : Nat} {m : Int} (h : Alk n t) (z : isFz t = true) : Alk (n + 1) (.tup [.str "power", t, .int m]) := fun k hk => by
  obtain ⟨k, rfl⟩ : ∃ j, k = j + 1 := ⟨k - 1, by omega⟩
  unfold nr__law_alike
  have e1 : N.gb (gEq (.int m) (.int m)) = .ok true := by
    rw [vEq]; unfold N.gb; simp
  rw [alike_head (by decide +kernel), N.s_ok, if_neg (by decide), gix_t0 _ rfl, N.bind_ok, eq_no (by decide +kernel) (by decide +kernel) (by decide +kernel), N.s_ok, if_neg (by decide), N.bind_ok, eq_no (by decide +kernel) (by decide +kernel) (by decide +kernel), N.s_ok, if_neg (by decide), N.bind_ok, eq_self (by decide +kernel), N.s_ok, if_pos rfl, gix_t2 _ _ _ rfl, N.bind_ok, whole_int, N.bind_ok, N.bind_ok, e1, gix_t1 _ _ z, N.bind_ok, N.bind_ok, h k (by omega)]
  rfl
theorem alk_two {s : PySem.Str} {t1 t2 : D} {n1 n2 : Nat} (hs : s = "plus" ∨ s = "minus" ∨ s = "times") (h1 : Alk n1 t1) (h2 : Alk n2 t2) (z1 : isFz t1 = true) (z2 : isFz t2 = true) : Alk (max n1 n2 + 1) (.tup [.str s, t1, t2]) := fun k hk => by
  obtain ⟨k, rfl⟩ : ∃ j, k = j + 1 := ⟨k - 1, by omega⟩
  unfold nr__law_alike
  have o : PySem.PyData.strOk s = true := by rcases hs with rfl | rfl | rfl <;> decide +kernel
  have n1 : (s == "name") = false := by rcases hs with rfl | rfl | rfl <;> decide +kernel
  have n2 : (s == "number") = false := by rcases hs with rfl | rfl | rfl <;> decide +kernel
  have n3 : (s == "power") = false := by rcases hs with rfl | rfl | rfl <;> decide +kernel
  rw [alike_head o, N.s_ok, if_neg (by decide), gix_t0 _ rfl, N.bind_ok, eq_no o (by decide +kernel) n1, N.s_ok, if_neg (by decide), N.bind_ok, eq_no o (by decide +kernel) n2, N.s_ok, if_neg (by decide), N.bind_ok, eq_no o (by decide +kernel) n3, N.s_ok, if_neg (by decide), gix_t1 _ _ z1, N.bind_ok, N.bind_ok, h1 k (by omega), gix_t2 _ _ _ z2, N.bind_ok, N.bind_ok, h2 k (by omega)]
  rfl
theorem pc_alike {t : D} {ws : List Wd} {l d : Nat} (p : Pc t ws l d) : isFz t = true ∧ 1 ≤ ws.length ∧ ∃ n, 2 * n ≤ ws.length + 1 ∧ Alk n t := by
  have two : ∀ {s : PySem.Str} {t1 t2 : D} {w1 w2 : List Wd} {o : Wd}, (s = "plus" ∨ s = "minus" ∨ s = "times") → (isFz t1 = true ∧ 1 ≤ w1.length ∧ ∃ n, 2 * n ≤ w1.length + 1 ∧ Alk n t1) → (isFz t2 = true ∧ 1 ≤ w2.length ∧ ∃ n, 2 * n ≤ w2.length + 1 ∧ Alk n t2) → isFz (D.tup [.str s, t1, t2]) = true ∧ 1 ≤ (w1 ++ [o] ++ w2).length ∧ ∃ n, 2 * n ≤ (w1 ++ [o] ++ w2).length + 1 ∧ Alk n (.tup [.str s, t1, t2]) := fun {s t1 t2 w1 w2 o} hs ⟨z1, l1, n1, q1, a1⟩ ⟨z2, l2, n2, q2, a2⟩ => by
    have l3 : (w1 ++ [o] ++ w2).length = w1.length + 1 + w2.length := by rw [List.length_append, List.length_append]; rfl
    exact ⟨rfl, by omega, max n1 n2 + 1, by omega, alk_two hs a1 a2 z1 z2⟩
  induction p with
  | «at» h h1 h2 =>
    rcases h with ⟨_, rfl⟩ | ⟨_, x, y, _, rfl⟩
    · exact ⟨rfl, by simp, 1, by simp, alk_name h1⟩
    · exact ⟨rfl, by simp, 1, by simp, alk_num x y⟩
  | shut p ih =>
    obtain ⟨z, l, n, q, a⟩ := ih
    refine ⟨z, by simp, n, ?_, a⟩
    rw [List.length_append, List.length_append]; omega
  | times p1 h1 p2 h2 ih1 ih2 => exact two (.inr (.inr rfl)) ih1 ih2
  | plus p1 p2 h2 ih1 ih2 => exact two (.inl rfl) ih1 ih2
  | minus p1 p2 h2 ih1 ih2 => exact two (.inr (.inl rfl)) ih1 ih2
  | @power t ws d a n p hp ih =>
    obtain ⟨z, l, m, q, al⟩ := ih
    exact ⟨rfl, by simp, m + 1, by simp; omega, alk_pow al z⟩
theorem alike_ok {t : D} {ws : List Wd} {l d : Nat} (p : Pc t ws l d) (h : ws.length ≤ 120) : n__law_alike t t = .ok true := by
  obtain ⟨_, _, n, q, a⟩ := pc_alike p
  unfold n__law_alike
  exact a 70 (by omega)
end Q
end Lw
namespace Lw
open Bn
namespace Q
open SX (S S_len S_cat S_beq_eq)
open PySem.NumText (AllDigits digitsVal)
theorem dvk {i j : Int} (h : 0 < j) (h2 : j.natAbs < 2 ^ 64 := by decide) : N.div i j = .ok (i / j) := N.div_ok h (b := 64) h2
theorem mdk {i j : Int} (h : 0 < j := by decide) : N.mod i j = .ok (i % j) := N.mod_ok h
theorem cat_ok {α : Type} {xs ys : List α} (h : xs.length + ys.length ≤ 1000000) : N.cat xs ys = .ok (xs ++ ys) := by unfold N.cat; exact if_pos h
theorem cell_any (sc : List Int) {k : Int} (h : 0 ≤ k) : ∃ c, n__law_cell_at sc k = .ok c := by
  unfold n__law_cell_at
  by_cases c : k < (sc.length : Int)
  · rw [decide_eq_true c, if_pos rfl]
    have hk : k.toNat < sc.length := by omega
    rw [N.ix_i h (List.getElem?_eq_getElem hk)]
    exact ⟨_, rfl⟩
  · rw [decide_eq_false c, if_neg (by decide)]
    exact ⟨0, rfl⟩
theorem ix_last {α : Type} (r : List α) (a : α) : N.ix (r ++ [a]) (-1) = .ok a := by
  unfold N.ix L2.atI L2.ixN
  rw [if_neg (by decide), if_pos (by simp; omega)]
  show N.o ((r ++ [a])[(-1 + ((r ++ [a]).length : Int)).toNat]?) = _
  rw [show (-1 + ((r ++ [a]).length : Int)).toNat = r.length by simp; omega, List.getElem?_append_right (Nat.le_refl _), Nat.sub_self]; rfl
theorem ix_last2 {α : Type} (r : List α) (a b : α) : N.ix (r ++ [a, b]) (-2) = .ok a := by
  unfold N.ix L2.atI L2.ixN
  rw [if_neg (by decide), if_pos (by simp; omega)]
  show N.o ((r ++ [a, b])[(-2 + ((r ++ [a, b]).length : Int)).toNat]?) = _
  rw [show (-2 + ((r ++ [a, b]).length : Int)).toNat = r.length by simp; omega, List.getElem?_append_right (Nat.le_refl _), Nat.sub_self]; rfl
theorem cut_last {α : Type} (r : List α) (a : α) : cutL (r ++ [a]) none (some (-1)) = r := by
  unfold cutL
  rw [show HT.sIx (r ++ [a]).length 0 none = 0 from rfl, List.drop_zero]
  show (r ++ [a]).take ((if (-1 : Int) < 0 then (-1 + ((r ++ [a]).length : Int)).toNat else min (-1 : Int).toNat (r ++ [a]).length) - 0) = r
  rw [if_pos (by decide), show ((-1 + ((r ++ [a]).length : Int)).toNat - 0) = r.length by simp; omega, List.take_left']
  rfl
theorem nstr_small {i : Int} (h : i.natAbs < 2 ^ 64) : N.str i = .ok (S (itx i)) := nstr_ok (by
  by_cases z : i.natAbs = 0
  · rw [z]; decide
  · have := (Nat.log2_lt z).mpr h
    omega)
abbrev P4 := D × (List PySem.Str) × Int × Int
def PcP (n dd : Nat) (p : P4) : Prop := ∃ (ws : List Wd) (l d : Nat), p.2.1 = ws.map S ∧ p.2.2.1 = (l : Int) ∧ p.2.2.2 = (d : Int) ∧ Pc p.1 ws l d ∧ ws.length ≤ n ∧ d ≤ dd
theorem PcP.mono {n m dd ee : Nat} {p : P4} (h : PcP n dd p) (k : n ≤ m) (k2 : dd ≤ ee) : PcP m ee p := by
  obtain ⟨ws, l, d, h1, h2, h3, h4, h5, h6⟩ := h
  exact ⟨ws, l, d, h1, h2, h3, h4, by omega, by omega⟩
theorem itx_ok (i : Int) : ∀ c ∈ itx i, c < 1114112 := fun c hc => by
  have := itx_mem hc
  omega
theorem itx_noname (i : Int) (r : List Nat) : nameB (itx i ++ r) = false := by
  have h : ∃ c, c ∈ itx i := by
    unfold itx
    split
    · exact ⟨45, List.mem_cons_self⟩
    · cases e : TL.numL i.natAbs with
      | nil => exact absurd e (TL.numL_ne _)
      | cons c r => exact ⟨c, List.mem_cons_self⟩
  obtain ⟨c, hc⟩ := h
  have := itx_mem hc
  unfold nameB
  split
  · rfl
  · exact List.all_eq_false.mpr ⟨c, List.mem_append_left _ hc, by
      rw [decide_eq_false (show ¬ 97 ≤ c by omega)]; simp⟩
theorem num_atom {i : Int} (h : i.natAbs < 1000000000) : AtW (itx i) (.tup [.str "number", .int i, .int 1]) := .inr ⟨by have := itx_noname i []; rwa [List.append_nil] at this, i, 1, nu_int h, rfl⟩
theorem frac_atom {t : Int} {b : Nat} (h : t.natAbs < 1000000000) (h2 : 2 ≤ b) (hb : b < 1000000000) (g : Nat.gcd t.natAbs b = 1) : AtW (itx t ++ 47 :: itx (b : Int)) (.tup [.str "number", .int t, .int (b : Int)]) := .inr ⟨itx_noname t _, t, b, nu_frac h h2 hb g, rfl⟩
def lets : List Nat := [97, 98, 109, 120, 121, 122]
theorem lets_name {a : List Nat} (h0 : a ≠ []) (h1 : a.length ≤ 8) (h : ∀ c ∈ a, c ∈ lets) : nameB a = true := by
  unfold nameB
  have hk : keptB a = false := by
    have q : (ks_KEPT.all fun y => y.cps.toList.any fun c => !lets.contains c) = true := by decide +kernel
    unfold keptB
    refine List.any_eq_false.mpr fun y hy e => ?_
    have e1 : y = S a := eq_of_beq e
    obtain ⟨c, hc, hn⟩ := List.any_eq_true.mp (List.all_eq_true.mp q y hy)
    rw [e1] at hc
    have := h c hc
    rw [List.contains_iff_mem.mpr this] at hn
    cases hn
  rw [if_neg (fun q => q.elim h0 fun q => q.elim (by omega) fun q => by rw [hk] at q; cases q)]
  exact List.all_eq_true.mpr fun c hc => by
    have := h c hc
    unfold lets at this
    simp only [List.mem_cons, List.not_mem_nil, or_false] at this
    rw [decide_eq_true (show 97 ≤ c by omega), decide_eq_true (show c ≤ 122 by omega)]; rfl
theorem join_one : ∀ l : List Nat, TL.joinL [] (l.map fun c => [c]) = l
  | [] => rfl
  | [c] => rfl
  | c :: d :: r => by
    have := join_one (d :: r)
    show [c] ++ ([] ++ TL.joinL [] ((d :: r).map fun c => [c])) = _
    rw [this]; rfl
theorem lit_lets : ("abmxyz" : PySem.Str) = S lets := rfl
theorem gcd_one (b m : Int) : Nat.gcd (b * m + 1).natAbs b.natAbs = 1 := by
  have h1 : ((Nat.gcd (b * m + 1).natAbs b.natAbs : Nat) : Int) ∣ b * m + 1 := Int.ofNat_dvd_left.mpr (Nat.gcd_dvd_left _ _)
  have h2 : ((Nat.gcd (b * m + 1).natAbs b.natAbs : Nat) : Int) ∣ b := Int.ofNat_dvd_left.mpr (Nat.gcd_dvd_right _ _)
  have h3 : ((Nat.gcd (b * m + 1).natAbs b.natAbs : Nat) : Int) ∣ 1 := by
    have := Int.dvd_sub h1 (Int.dvd_trans h2 (Int.dvd_mul_right b m))
    rwa [show b * m + 1 - b * m = 1 by omega] at this
  exact Nat.dvd_one.mp (by exact_mod_cast h3)
theorem atom_ok {c : Int} (h : 0 ≤ c) : ∃ p, n__law_atom c = .ok p ∧ PcP 1 0 p := by
  unfold n__law_atom
  rw [mdk, N.bind_ok, N.s_ok]
  by_cases c0 : c % 3 = 0
  · rw [decide_eq_true c0, if_pos rfl, dvk (by decide), N.bind_ok, mdk, N.bind_ok, N.s_ok]
    have r1 := Int.emod_nonneg (c / 3) (show (1999999999 : Int) ≠ 0 by decide)
    have r2 := Int.emod_lt_of_pos (c / 3) (show (0 : Int) < 1999999999 by decide)
    generalize c / 3 % 1999999999 = x at r1 r2
    rw [nstr_small (by omega), N.bind_ok, N.bind_ok, N.s_ok]
    have hl := itx_small (i := x - 999999999) (k := 9) (by decide) (by omega)
    exact ⟨_, rfl, [itx (x - 999999999)], 3, 0, rfl, rfl, rfl, .at (num_atom (by omega)) (itx_ok _) (by omega), Nat.le_refl _, Nat.le_refl _⟩
  · rw [decide_eq_false c0, if_neg (by decide), N.bind_ok, N.s_ok]
    by_cases c1 : c % 3 = 1
    · rw [decide_eq_true c1, if_pos rfl, dvk (by decide), N.bind_ok, mdk, N.bind_ok, N.s_ok, dvk (by decide), N.bind_ok, mdk, N.bind_ok, N.bind_ok]
      have r1 := Int.emod_nonneg (c / 3) (show (997 : Int) ≠ 0 by decide)
      have r2 := Int.emod_lt_of_pos (c / 3) (show (0 : Int) < 997 by decide)
      have r3 := Int.emod_nonneg (c / 7) (show (2001 : Int) ≠ 0 by decide)
      have r4 := Int.emod_lt_of_pos (c / 7) (show (0 : Int) < 2001 by decide)
      generalize c / 3 % 997 = x at r1 r2
      generalize c / 7 % 2001 = y at r3 r4
      obtain ⟨b, hb⟩ : ∃ b : Nat, 2 + x = (b : Int) := ⟨(2 + x).toNat, by omega⟩
      obtain ⟨m, hm⟩ : ∃ m : Int, y - 1000 = m := ⟨_, rfl⟩
      rw [hb, hm, N.mul_l (by omega), N.bind_ok, N.s_ok]
      have hbm : ((b : Int) * m).natAbs ≤ 1000000 := by
        rw [Int.natAbs_mul]
        calc (b : Int).natAbs * m.natAbs ≤ 1000 * 1000 := Nat.mul_le_mul (by omega) (by omega)
          _ = 1000000 := by decide
      have g := gcd_one (b : Int) m
      rw [Int.natAbs_natCast] at g
      generalize (b : Int) * m = z at hbm g
      rw [nstr_small (by omega), N.bind_ok, lit_s]
      have l1 := itx_small (i := z + 1) (k := 9) (by decide) (by omega)
      have l2 := itx_small (i := (b : Int)) (k := 9) (by decide) (by omega)
      rw [sadd_S (by simp; omega), N.bind_ok, nstr_small (by omega), N.bind_ok, sadd_S (by simp; omega), N.bind_ok, N.bind_ok, N.s_ok]
      refine ⟨_, rfl, [itx (z + 1) ++ 47 :: itx (b : Int)], 3, 0, ?_, rfl, rfl, .at (frac_atom (by omega) (by omega) (by omega) g) (fun d hd => ?_) (by simp; omega), Nat.le_refl _, Nat.le_refl _⟩
      · show [S (itx (z + 1) ++ [47] ++ itx (b : Int))] = _
        rw [List.append_assoc]; rfl
      · rcases List.mem_append.mp hd with hd | hd
        · exact itx_ok _ d hd
        · rcases List.mem_cons.mp hd with rfl | hd
          · decide
          · exact itx_ok _ d hd
    · rw [decide_eq_false c1, if_neg (by decide), N.s_ok, dvk (by decide), N.bind_ok, mdk, N.bind_ok, N.bind_ok]
      have r1 := Int.emod_nonneg (c / 3) (show (8 : Int) ≠ 0 by decide)
      have r2 := Int.emod_lt_of_pos (c / 3) (show (0 : Int) < 8 by decide)
      obtain ⟨n, hn⟩ : ∃ n : Nat, 1 + c / 3 % 8 = (n : Int) := ⟨(1 + c / 3 % 8).toNat, by omega⟩
      rw [hn]
      have hr : N.range (n : Int) = .ok ((List.range n).map fun k : Nat => (k : Int)) := by
        unfold N.range
        rw [if_pos ⟨by have : (0 : Int) ≤ 2 ^ 62 := by decide
                       omega, by have : (2 : Int) ^ 62 = 4611686018427387904 := by decide
                                 omega⟩, Int.toNat_natCast]
      let g : Int → Nat := fun k => lets.getD ((c / 3 + c / 5 % 7 * k) % 6).toNat 97
      have hg : ∀ k, g k ∈ lets := fun k => by
        have q1 := Int.emod_nonneg (c / 3 + c / 5 % 7 * k) (show (6 : Int) ≠ 0 by decide)
        have q2 := Int.emod_lt_of_pos (c / 3 + c / 5 % 7 * k) (show (0 : Int) < 6 by decide)
        show lets.getD ((c / 3 + c / 5 % 7 * k) % 6).toNat 97 ∈ lets
        generalize ((c / 3 + c / 5 % 7 * k) % 6) = z at q1 q2
        have : z.toNat < lets.length := by show z.toNat < 6; omega
        rw [List.getD_eq_getElem?_getD, List.getElem?_eq_getElem this]
        exact List.getElem_mem this
      rw [hr, N.bind_ok, lcN_pure (g := fun k => S [g k]) (by simp; omega) fun k hk => ?_]
      · rw [N.bind_ok]
        have e : ((List.range n).map fun k : Nat => (k : Int)).map (fun k => S [g k]) = ((((List.range n).map fun k : Nat => (k : Int)).map g).map fun c => [c]).map S := by
          simp only [List.map_map]; rfl
        rw [e]
        generalize hls : (((List.range n).map fun k : Nat => (k : Int)).map g) = ls
        have ll : ls.length = n := by rw [← hls]; simp
        have lm : ∀ c ∈ ls, c ∈ lets := fun c hc => by
          rw [← hls] at hc
          obtain ⟨k, _, rfl⟩ := List.mem_map.mp hc
          exact hg k
        have hj : N.join ("" : PySem.Str) ((ls.map fun c => [c]).map S) = .ok (S ls) := by
          unfold N.join
          rw [lit_nil, SX.join_S, join_one, if_pos]
          rw [SX.lens, S_len, List.map_map]
          have : (ls.map (List.length ∘ fun c => [c])).sum = ls.length := by
            clear hls lm e ll
            induction ls with
            | nil => rfl
            | cons c r ih => rw [List.map_cons, List.sum_cons, ih]; simp; omega
          rw [this]; simp; omega
        rw [hj, N.s_ok]
        have ha := lets_name (a := ls) (by intro q; rw [q] at ll; simp at ll; omega) (by omega) lm
        exact ⟨_, rfl, [ls], 3, 0, rfl, rfl, rfl, .at (.inl ⟨ha, rfl⟩) (fun d hd => by
          have := lm d hd
          unfold lets at this
          simp only [List.mem_cons, List.not_mem_nil, or_false] at this
          omega) (by omega), Nat.le_refl _, Nat.le_refl _⟩
      · obtain ⟨j, hj, rfl⟩ := List.mem_map.mp hk
        have hj' : j < n := List.mem_range.mp hj
        have q1 := Int.emod_nonneg (c / 5) (show (7 : Int) ≠ 0 by decide)
        have q2 := Int.emod_lt_of_pos (c / 5) (show (0 : Int) < 7 by decide)
        have d3 := dvk (i := c) (j := 3) (by decide)
        have d5 := dvk (i := c) (j := 5) (by decide)
        have m7 := mdk (i := c / 5) (j := 7)
        have mm := N.mul_l (i := c / 5 % 7) (j := (j : Int)) (by omega)
        have m6 := mdk (i := c / 3 + c / 5 % 7 * (j : Int)) (j := 6)
        simp only [d3, d5, m7, mm, m6, N.bind_ok]
        have q3 := Int.emod_nonneg (c / 3 + c / 5 % 7 * (j : Int)) (show (6 : Int) ≠ 0 by decide)
        have q4 := Int.emod_lt_of_pos (c / 3 + c / 5 % 7 * (j : Int)) (show (0 : Int) < 6 by decide)
        show N.six _ _ = .ok (S [lets.getD ((c / 3 + c / 5 % 7 * (j : Int)) % 6).toNat 97])
        generalize ((c / 3 + c / 5 % 7 * (j : Int)) % 6) = z at q3 q4
        obtain ⟨i, rfl⟩ : ∃ i : Nat, z = (i : Int) := ⟨z.toNat, by omega⟩
        have : i < lets.length := by show i < 6; omega
        rw [Int.toNat_natCast, lit_lets, six_S (c := lets.getD i 97) (by decide) (by rw [List.getD_eq_getElem?_getD, List.getElem?_eq_getElem this]; rfl)]
end Q
end Lw
namespace Lw
open Bn
namespace Q
open SX (S S_len S_cat S_beq_eq)
open PySem.NumText (AllDigits digitsVal)
theorem mS (a b : List Wd) : a.map S ++ b.map S = (a ++ b).map S := (List.map_append).symm
theorem shut_ok {n dd : Nat} {p : P4} (h : PcP n dd p) (hn : n ≤ 1000) : ∃ q, n__law_shut p = .ok q ∧ PcP (n + 2) (dd + 1) q ∧ q.2.2.1 = 3 := by
  obtain ⟨ws, l, d, h1, h2, h3, h4, h5, h6⟩ := h
  unfold n__law_shut
  rw [h1, h3, cat_ok (by simp; omega), N.bind_ok, cat_ok (by simp; omega), N.bind_ok, N.s_ok]
  refine ⟨_, rfl, ⟨[[40]] ++ ws ++ [[41]], 3, d + 1, ?_, rfl, by show (d : Int) + 1 = _; omega, h4.shut, by rw [List.length_append, List.length_append]; show 1 + ws.length + 1 ≤ _; omega, by omega⟩, rfl⟩
  show [("(" : PySem.Str)] ++ ws.map S ++ [(")" : PySem.Str)] = _
  rw [← mS, ← mS]; rfl
theorem at_least_ok {n dd : Nat} {p : P4} (h : PcP n dd p) (hn : n ≤ 1000) {k : Int} (hk : k ≤ 3) : ∃ q, n__law_at_least p k = .ok q ∧ PcP (n + 2) (dd + 1) q ∧ k ≤ q.2.2.1 := by
  unfold n__law_at_least
  by_cases c : p.2.2.1 < k
  · rw [decide_eq_true c, if_pos rfl]
    obtain ⟨q, e, g, l⟩ := shut_ok h hn
    rw [e, N.s_ok]
    exact ⟨q, rfl, g, by rw [l]; exact hk⟩
  · rw [decide_eq_false c, if_neg (by decide)]
    exact ⟨p, rfl, h.mono (by omega) (by omega), by omega⟩
theorem joined_ok {n1 n2 d1 d2 : Nat} {p1 p2 : P4} (h1 : PcP n1 d1 p1) (h2 : PcP n2 d2 p2) (k1 : n1 ≤ 900) (k2 : n2 ≤ 900) {w : Int} (hw : w = 0 ∨ w = 1 ∨ w = 2) : ∃ q, n__law_joined w p1 p2 = .ok q ∧ PcP (n1 + n2 + 5) (max d1 d2 + 1) q := by
  unfold n__law_joined
  rw [N.s_ok]
  have lv : ((if decide (w = 2) = true then 1 else 0 : Int) = 0 ∨ w = 2 ∧ (if decide (w = 2) = true then 1 else 0 : Int) = 1) := by
    by_cases c : w = 2
    · exact .inr ⟨c, by rw [decide_eq_true c]; rfl⟩
    · exact .inl (by rw [decide_eq_false c]; rfl)
  generalize hL : (if decide (w = 2) = true then 1 else 0 : Int) = L at lv
  obtain ⟨q1, e1, g1, l1⟩ := at_least_ok h1 (by omega) (k := L) (by omega)
  obtain ⟨q2, e2, g2, l2⟩ := at_least_ok h2 (by omega) (k := L + 1) (by omega)
  rw [e1, N.s_ok, e2, N.s_ok]
  obtain ⟨w1, a1, b1, x1, y1, z1, u1, v1, t1⟩ := g1
  obtain ⟨w2, a2, b2, x2, y2, z2, u2, v2, t2⟩ := g2
  have mx : mxI q1.2.2.2 q2.2.2.2 = ((max b1 b2 : Nat) : Int) := by
    unfold mxI; rw [z1, z2]; split <;> omega
  have fin : ∀ (o : Wd) (nm : PySem.Str), N.ix [("+" : PySem.Str), ("-" : PySem.Str), ("*" : PySem.Str)] w = .ok (S o) → N.ix [("plus" : PySem.Str), ("minus" : PySem.Str), ("times" : PySem.Str)] w = .ok nm → Pc (.tup [.str nm, q1.1, q2.1]) (w1 ++ [o] ++ w2) L.toNat (max b1 b2) → (0 ≤ L) → ∃ q, NS.f (N.s (N.ix [("+" : PySem.Str), ("-" : PySem.Str), ("*" : PySem.Str)] w) fun sign' =>
N.s (N.bind (N.ix [("plus" : PySem.Str), ("minus" : PySem.Str), ("times" : PySem.Str)] w) fun x81 => N.ok (x81, q1.1, q2.1)) fun tree' =>
N.s (N.bind (N.bind (N.cat q1.2.1 [sign']) fun x83 => (N.cat x83 q2.2.1)) fun x84 => N.ok ((D.tup [(D.str tree'.1), tree'.2.1, tree'.2.2]), x84, L, (mxI q1.2.2.2 q2.2.2.2))) fun x87 => (NS.rt x87 : NS Unit Unit P4)) = .ok q ∧ PcP (n1 + n2 + 5) (max d1 d2 + 1) q := fun o nm i1 i2 pc hL0 => by
    have l1 : (w1.map S).length = w1.length := List.length_map _
    have l2 : (w2.map S).length = w2.length := List.length_map _
    rw [i1, N.s_ok, i2, N.bind_ok, N.s_ok, x1, x2, cat_ok (by rw [l1]; simp; omega), N.bind_ok, cat_ok (by rw [List.length_append, l1, l2]; simp; omega), N.bind_ok, mx]
    refine ⟨_, rfl, w1 ++ [o] ++ w2, L.toNat, max b1 b2, ?_, by show L = _; omega, rfl, pc, by rw [List.length_append, List.length_append]; show w1.length + 1 + w2.length ≤ _; omega, by omega⟩
    show w1.map S ++ [S o] ++ w2.map S = _
    rw [← mS, ← mS]; rfl
  rcases hw with rfl | rfl | rfl
  · have L0 : L = 0 := by rw [← hL]; rfl
    subst L0
    exact fin [43] "plus" (N.ix_ok (k := 0) rfl) (N.ix_ok (k := 0) rfl) (.plus u1 u2 (by omega)) (by omega)
  · have L0 : L = 0 := by rw [← hL]; rfl
    subst L0
    exact fin [45] "minus" (N.ix_ok (k := 1) rfl) (N.ix_ok (k := 1) rfl) (.minus u1 u2 (by omega)) (by omega)
  · have L0 : L = 1 := by rw [← hL]; rfl
    subst L0
    exact fin [42] "times" (N.ix_ok (k := 2) rfl) (N.ix_ok (k := 2) rfl) (.times u1 (by omega) u2 (by omega)) (by omega)
theorem pow_itx {n : Int} (h : 2 ≤ n) (k : n ≤ 6) : powL (itx n) = some n := by
  obtain rfl | rfl | rfl | rfl | rfl : n = 2 ∨ n = 3 ∨ n = 4 ∨ n = 5 ∨ n = 6 := by omega
  all_goals decide +kernel
theorem pc_lv {t : D} {ws : List Wd} {l d : Nat} (p : Pc t ws l d) : l ≤ 3 := by cases p <;> omega
theorem raised_ok {n dd : Nat} {p : P4} (h : PcP n dd p) (hn : n ≤ 900) {m : Int} (h2 : 2 ≤ m) (h6 : m ≤ 6) : ∃ q, n__law_raised p m = .ok q ∧ PcP (n + 4) (dd + 1) q := by
  unfold n__law_raised
  obtain ⟨q1, e1, g1, l1⟩ := at_least_ok h (by omega) (k := 3) (by omega)
  rw [e1, N.s_ok]
  obtain ⟨w1, a1, b1, x1, y1, z1, u1, v1, t1⟩ := g1
  have l1' : (w1.map S).length = w1.length := List.length_map _
  have a3 : a1 = 3 := by
    have : a1 ≤ 3 := pc_lv u1
    omega
  subst a3
  rw [nstr_small (by omega), N.bind_ok, N.bind_ok, x1, cat_ok (by rw [l1']; simp; omega), N.bind_ok, N.s_ok, z1]
  refine ⟨_, rfl, w1 ++ [[94], itx m], 2, b1, ?_, rfl, rfl, .power u1 (pow_itx h2 h6), by rw [List.length_append]; show w1.length + 2 ≤ _; omega, by omega⟩
  show w1.map S ++ [("^" : PySem.Str), S (itx m)] = _
  rw [← mS]; rfl
theorem fits_ok {n dd : Nat} {p : P4} (h : PcP n dd p) : ∃ b, n__law_fits p = .ok b ∧ (b = true → PcP 119 16 p) := by
  obtain ⟨ws, l, d, h1, h2, h3, h4, h5, h6⟩ := h
  unfold n__law_fits
  refine ⟨_, rfl, fun hb => ?_⟩
  rw [Bool.and_eq_true, h1, h3, List.length_map] at hb
  have b1 := of_decide_eq_true hb.1
  have b2 := of_decide_eq_true hb.2
  exact ⟨ws, l, d, h1, h2, h3, h4, by omega, by omega⟩
def PL (n : Nat) (L : List P4) : Prop := L ≠ [] ∧ L.length ≤ n ∧ ∀ p ∈ L, PcP 119 16 p
theorem snoc_of {α : Type} : ∀ {L : List α}, L ≠ [] → ∃ r a, L = r ++ [a]
  | [], h => absurd rfl h
  | [a], _ => ⟨[], a, rfl⟩
  | b :: a :: r, _ => by
    obtain ⟨r', x, e⟩ := snoc_of (L := a :: r) (by simp)
    exact ⟨b :: r', x, by rw [e]; rfl⟩
theorem PL.one {n : Nat} {L : List P4} (h : PL n L) : ∃ r a, L = r ++ [a] ∧ PcP 119 16 a ∧ r.length + 1 ≤ n ∧ ∀ p ∈ r, PcP 119 16 p := by
  obtain ⟨h1, h2, h3⟩ := h
  obtain ⟨r, a, rfl⟩ := snoc_of h1
  exact ⟨r, a, rfl, h3 a (by simp), by simpa using h2, fun p hp => h3 p (List.mem_append_left _ hp)⟩
theorem PL.snoc {n : Nat} {r : List P4} {a : P4} (h1 : r.length + 1 ≤ n) (h2 : ∀ p ∈ r, PcP 119 16 p) (h : PcP 119 16 a) : PL n (r ++ [a]) := by
  refine ⟨by simp, by simpa using h1, fun p hp => ?_⟩
  rcases List.mem_append.mp hp with hp | hp
  · exact h2 p hp
  · rw [List.mem_singleton.mp hp]; exact h
theorem grown_ok {n : Nat} {L : List P4} (h : PL n L) (hn : n ≤ 1000) {c : Int} (h0 : 0 ≤ c) : ∃ L', n__law_grown L c = .ok L' ∧ PL (n + 1) L' := by
  have hL := h
  obtain ⟨r, a, rfl, ha, hr, hrp⟩ := h.one
  have d0 : 0 ≤ c / 8 := by omega
  obtain ⟨pa, ea, ga⟩ := atom_ok d0
  have add : ∃ L', (N.bind (N.bind (N.bind (N.div c 8) fun x126 => (n__law_atom x126)) fun x128 => N.ok [x128]) fun x129 => (N.cat (r ++ [a]) x129)) = .ok L' ∧ PL (n + 1) L' := by
    rw [dvk (by decide), N.bind_ok, ea, N.bind_ok, N.bind_ok, cat_ok (by simp; omega)]
    exact ⟨_, rfl, PL.snoc (by simpa using hr) (fun p hp => hL.2.2 p hp) (ga.mono (by omega) (by omega))⟩
  obtain ⟨La, eLa, gLa⟩ := add
  have m8 := mdk (i := c) (j := 8)
  have r1 := Int.emod_nonneg c (show (8 : Int) ≠ 0 by decide)
  have r2 := Int.emod_lt_of_pos c (show (0 : Int) < 8 by decide)
  have tail : ∀ (r' : List P4) (b : P4) (x : P4) (g : P4) (n' dd : Nat), r'.length + 1 ≤ n → (∀ p ∈ r', PcP 119 16 p) → PcP 119 16 x → PcP n' dd g → PL n (r' ++ [x]) → ∃ L', (N.s (N.not (n__law_fits g)) fun b180 => if b180 = true then
NS.rt (r' ++ [x])
else
N.s (N.cat (cutL (r' ++ [x]) none (some (-1))) [g]) fun x179 => (NS.rt x179 : NS Unit Unit (List P4))) = NS.rt L' ∧ PL (n + 1) L' := fun r' b x g n' dd hl hp hx hg hq => by
    obtain ⟨bb, e, hb⟩ := fits_ok hg
    rw [e]
    cases bb with
    | false => exact ⟨_, rfl, hq.1, Nat.le_succ_of_le hq.2.1, hq.2.2⟩
    | true =>
      show ∃ L', (N.s (N.cat (cutL (r' ++ [x]) none (some (-1))) [g]) fun x179 => (NS.rt x179 : NS Unit Unit (List P4))) = NS.rt L' ∧ PL (n + 1) L'
      rw [cut_last, cat_ok (by simp; omega)]
      exact ⟨_, rfl, PL.snoc (by omega) hp (hb rfl)⟩
  unfold n__law_grown
  rw [m8, N.bind_ok, N.s_ok]
  by_cases c1 : c % 8 < 3
  · rw [decide_eq_true c1, if_pos rfl, eLa, N.s_ok]
    exact ⟨_, rfl, gLa⟩
  · rw [decide_eq_false c1, if_neg (by decide)]
    by_cases c2 : c % 8 = 3
    · rw [N.bind_ok, N.s_ok, decide_eq_true c2, if_pos rfl, ix_last, N.bind_ok]
      obtain ⟨q, e, g, _⟩ := shut_ok ha (by omega)
      rw [e, N.s_ok]
      obtain ⟨L', e2, g2⟩ := tail r a a q _ _ hr hrp ha g hL
      show ∃ L', NS.f (N.s (N.not (n__law_fits q)) _) = _ ∧ _
      rw [e2]
      exact ⟨L', rfl, g2⟩
    · rw [N.bind_ok, N.s_ok, decide_eq_false c2, if_neg (by decide), N.bind_ok, N.s_ok]
      by_cases c3 : c % 8 = 4
      · rw [decide_eq_true c3, if_pos rfl, ix_last, N.bind_ok, dvk (by decide), N.bind_ok, mdk, N.bind_ok, N.bind_ok]
        have q1 := Int.emod_nonneg (c / 8) (show (5 : Int) ≠ 0 by decide)
        have q2 := Int.emod_lt_of_pos (c / 8) (show (0 : Int) < 5 by decide)
        obtain ⟨q, e, g⟩ := raised_ok ha (by omega) (m := 2 + c / 8 % 5) (by omega) (by omega)
        rw [e, N.s_ok]
        obtain ⟨L', e2, g2⟩ := tail r a a q _ _ hr hrp ha g hL
        show ∃ L', NS.f (N.s (N.not (n__law_fits q)) _) = _ ∧ _
        rw [e2]
        exact ⟨L', rfl, g2⟩
      · rw [decide_eq_false c3, if_neg (by decide)]
        by_cases c4 : (((r ++ [a]).length : Nat) : Int) < 2
        · rw [decide_eq_true c4, if_pos rfl, eLa, N.s_ok]
          exact ⟨_, rfl, gLa⟩
        · rw [decide_eq_false c4, if_neg (by decide), N.bind_ok]
          have hr2 : PL n r := ⟨by intro q; rw [q] at c4; simp at c4, by omega, hrp⟩
          obtain ⟨r', b, rfl, hb, hr', hrp'⟩ := hr2.one
          have e1 : N.ix (r' ++ [b] ++ [a]) (-2) = .ok b := by rw [List.append_assoc]; exact ix_last2 r' b a
          rw [N.bind_ok, e1, N.bind_ok, ix_last, N.bind_ok]
          obtain ⟨q, e, g⟩ := joined_ok hb ha (by omega) (by omega) (w := c % 8 - 5) (by omega)
          rw [e, N.s_ok, N.s_ok, cut_last]
          obtain ⟨L', e2, g2⟩ := tail r' b b q _ _ (by omega) hrp' hb g hr2
          show ∃ L', NS.f (N.s (N.not (n__law_fits q)) _) = _ ∧ _
          rw [e2]
          exact ⟨L', rfl, g2⟩
end Q
end Lw
namespace Lw
open Bn
namespace Q
open SX (S S_len S_cat S_beq_eq)
open PySem.NumText (AllDigits digitsVal)
def noA : List Wd := [[103, 114, 105, 100], [108, 101, 116], [105, 110], [105, 115, 108, 97, 110, 100, 115], [97, 98, 99, 100, 101, 102, 103, 104, 105], [49, 50, 51, 52, 53, 54, 55, 56, 57, 48], [50, 47, 52], [45, 48], [48, 48, 55], [49, 47, 49], [49, 47, 49, 50, 51, 52, 53, 54, 55, 56, 57, 48], [120, 50], [88], [], [48, 47, 51], [45, 45, 49]]
def tenA : List Wd := [[48], [49], [55], [45, 50], [48, 50], [120], [], [50, 47, 51], [50, 50], [40]]
theorem bad_no {a : Wd} (h : a ∈ noA) : ¬ Good a := by
  have q : (noA.all fun a => !(sgnB a || (nameB a || (nu a).isSome))) = true := by decide +kernel
  have := List.all_eq_true.mp q a h
  rw [Bool.not_eq_true', Bool.or_eq_false_iff, Bool.or_eq_false_iff] at this
  rintro (g | g | g)
  · rw [this.1] at g; cases g
  · rw [this.2.1] at g; cases g
  · rw [this.2.2] at g; cases g
theorem bad_ok {a : Wd} (h : a ∈ noA) : WOk [a] := fun x hx => by
  rw [List.mem_singleton.mp hx]
  have q : (noA.all fun a => decide (a.length ≤ 1000) && a.all fun c => decide (c < 1114112)) = true := by decide +kernel
  have := List.all_eq_true.mp q a h
  rw [Bool.and_eq_true] at this
  exact ⟨fun c hc => of_decide_eq_true (List.all_eq_true.mp this.2 c hc), of_decide_eq_true this.1⟩
theorem ten_no {a : Wd} (h : a ∈ tenA) : powL a = none ∧ WOk [a] := by
  have q : (tenA.all fun a => (powL a).isNone && (decide (a.length ≤ 1000) && a.all fun c => decide (c < 1114112))) = true := by decide +kernel
  have := List.all_eq_true.mp q a h
  rw [Bool.and_eq_true, Bool.and_eq_true] at this
  refine ⟨Option.isNone_iff_eq_none.mp this.1, fun x hx => ?_⟩
  rw [List.mem_singleton.mp hx]
  exact ⟨fun c hc => of_decide_eq_true (List.all_eq_true.mp this.2.2 c hc), of_decide_eq_true this.2.1⟩
theorem pick {α β : Type} {xs : List α} {f : α → β} {c : Int} {n : Int} (h : n = (xs.length : Int)) (h0 : 0 < n) : ∃ a ∈ xs, N.ix (xs.map f) (c % n) = .ok (f a) := by
  have r1 := Int.emod_nonneg c (show n ≠ 0 by omega)
  have r2 := Int.emod_lt_of_pos c h0
  generalize c % n = x at r1 r2
  have hx : x.toNat < xs.length := by omega
  exact ⟨xs[x.toNat], List.getElem_mem hx, N.ix_i r1 (by rw [List.getElem?_map, List.getElem?_eq_getElem hx]; rfl)⟩
theorem no_atom_ok (c : Int) : ∃ a ∈ noA, n__law_no_atom c = .ok (S a) := by
  obtain ⟨a, ha, e⟩ := pick (xs := noA) (f := S) (c := c) (n := 16) rfl (by decide)
  refine ⟨a, ha, ?_⟩
  unfold n__law_no_atom
  rw [N.s_ok, cat_ok (by decide), N.s_ok, mdk, N.bind_ok]
  have e' : N.ix ([("grid" : PySem.Str), ("let" : PySem.Str), ("in" : PySem.Str), ("islands" : PySem.Str), ("abcdefghi" : PySem.Str), ("1234567890" : PySem.Str), ("2/4" : PySem.Str), ("-0" : PySem.Str), ("007" : PySem.Str), ("1/1" : PySem.Str), ("1/1234567890" : PySem.Str)] ++ [("x2" : PySem.Str), ("X" : PySem.Str), ("" : PySem.Str), ("0/3" : PySem.Str), ("--1" : PySem.Str)]) (c % 16) = .ok (S a) := e
  rw [e']; rfl
theorem cls_any (a : Wd) : vW a ≠ 0 ∨ bW a ≠ 0 := by
  cases e : sgnB a with
  | false => exact .inl (by rw [(vW_atom e).1]; decide)
  | true => rcases sgn_cases e with rfl | rfl | rfl | rfl | rfl | rfl <;> decide
theorem cut_fromL {α : Type} (xs : List α) {c : Nat} (h : c ≤ xs.length) : cutL xs (some (c : Int)) none = xs.drop c := by
  unfold cutL
  rw [HT.sIx_nat, HT.sIx_none, Nat.min_eq_left h]
  exact List.take_of_length_le (by rw [List.length_drop]; omega)
theorem cut_toL {α : Type} (xs : List α) {c : Nat} (h : c ≤ xs.length) : cutL xs none (some (c : Int)) = xs.take c := by
  unfold cutL
  rw [HT.sIx_nat, HT.sIx_none, Nat.min_eq_left h]; rfl
theorem cut_oneL {α : Type} (xs : List α) {c : Nat} (h : c < xs.length) : cutL xs (some (c : Int)) (some ((c + 1 : Nat) : Int)) = (xs.drop c).take 1 := by
  unfold cutL
  rw [HT.sIx_nat, HT.sIx_nat, Nat.min_eq_left (by omega), Nat.min_eq_left (by omega), Nat.add_sub_cancel_left]
theorem cnt_split (f : Wd → Int) {ws : List Wd} {i : Nat} (h : i < ws.length) : cnt f ws = cnt f (ws.take i) + f ws[i] + cnt f (ws.drop (i + 1)) := by
  conv => lhs; rw [← List.take_append_drop i ws, cnt_app, List.drop_eq_getElem_cons h, cnt_cons]
  omega
theorem WOk.take {a : List Wd} (h : WOk a) (i : Nat) : WOk (a.take i) := fun x hx => h x (List.mem_of_mem_take hx)
theorem WOk.drop {a : List Wd} (h : WOk a) (i : Nat) : WOk (a.drop i) := fun x hx => h x (List.mem_of_mem_drop hx)
theorem told_of {t : D} {ws : List Wd} (ok : WOk ws) (hn : ws.length ≤ 1000) (h : n_tree_of (ws.map S) = .ok t) : Told ws := by
  rcases tree_of_any ok hn with ⟨_, _, q⟩ | q
  · exact q
  · rw [h] at q; cases q
theorem left_out {ws : List Wd} (ok : WOk ws) (hn : ws.length ≤ 119) (T : Told ws) {i : Nat} (h : i < ws.length) : n__law_refused ((ws.take i ++ ws.drop (i + 1)).map S) = .ok true := by
  refine no_read ((ok.take i).app (ok.drop (i + 1))) (by simp; omega) fun q => ?_
  have v := q.v
  have b := q.b
  rw [cnt_app] at v b
  have v2 := T.v
  have b2 := T.b
  rw [cnt_split _ h] at v2 b2
  rcases cls_any ws[i] with c | c <;> omega
theorem doubled {ws : List Wd} (ok : WOk ws) (hn : ws.length ≤ 119) (T : Told ws) {i : Nat} (h : i < ws.length) : n__law_refused ((ws.take i ++ (ws.drop i).take 1 ++ ws.drop i).map S) = .ok true := by
  refine no_read (((ok.take i).app ((ok.drop i).take 1)).app (ok.drop i)) (by simp; omega) fun q => ?_
  have v := q.v
  have b := q.b
  have e : (ws.drop i).take 1 = [ws[i]] := by rw [List.drop_eq_getElem_cons h]; rfl
  rw [cnt_app, cnt_app, e, cnt_cons, cnt_nil, List.drop_eq_getElem_cons h, cnt_cons] at v b
  have v2 := T.v
  have b2 := T.b
  rw [cnt_split _ h] at v2 b2
  rcases cls_any ws[i] with c | c <;> omega
theorem powered {ws : List Wd} (ok : WOk ws) (hn : ws.length ≤ 119) {a : Wd} (ha : a ∈ tenA) : n__law_refused ((ws ++ [[94], a]).map S) = .ok true := by
  obtain ⟨p, k⟩ := ten_no ha
  refine no_read (ok.app (show WOk ([[94]] ++ [a]) from (wok1 (k := 94)).app k)) (by simp; omega) fun q => ?_
  have e1 : wa (ws ++ [[94], a]) ws.length = [94] := by rw [wa_end]; rfl
  have e2 : wa (ws ++ [[94], a]) (ws.length + 1) = a := by
    have := wa_app (pr := ws) (ws := [[94], a]) (rest := []) (j := 1) (by simp)
    rw [List.append_nil] at this
    exact this
  have := q.car ws.length e1
  rw [e2, p] at this
  cases this
theorem changed {ws : List Wd} (ok : WOk ws) (hn : ws.length ≤ 119) {a : Wd} (ha : a ∈ noA) (i : Nat) : n__law_refused ((ws.take i ++ [a] ++ ws.drop (i + 1)).map S) = .ok true :=
  no_read (((ok.take i).app (bad_ok ha)).app (ok.drop (i + 1))) (by simp; omega) fun q => bad_no ha (q.good a (by simp))
theorem tree_look {ws : List Wd} (ok : WOk ws) (h : lookB 0 ws = false) : n_tree_of (ws.map S) = .ex "NoRow" := by
  unfold n_tree_of
  rw [List.length_map]
  by_cases c : 120 < ws.length
  · rw [decide_eq_true (show (120 : Int) < (ws.length : Int) by omega), if_pos rfl]; rfl
  · rw [decide_eq_false (show ¬ (120 : Int) < (ws.length : Int) by omega), if_neg (by decide), look_ok ok, h]; rfl
theorem tree_long {ws : List Wd} (h : 120 < ws.length) : n_tree_of (ws.map S) = .ex "NoRow" := by
  unfold n_tree_of
  rw [List.length_map, decide_eq_true (show (120 : Int) < (ws.length : Int) by omega), if_pos rfl]; rfl
def zW (n : Nat) : List Wd := List.replicate n [40] ++ [[122]] ++ List.replicate n [41]
theorem z_pc : ∀ n : Nat, Pc (.tup [.str "name", .str "z"]) (zW n) 3 n
  | 0 => .at (.inl ⟨by decide +kernel, rfl⟩) ok1 (by decide)
  | n + 1 => by
    have e : zW (n + 1) = [[40]] ++ zW n ++ [[41]] := by
      unfold zW
      rw [List.replicate_succ, List.replicate_succ' (a := ([41] : Wd))]
      simp [List.append_assoc]
    rw [e]; exact (z_pc n).shut
theorem rep_one {α : Type} (a : α) : ∀ n : Nat, (List.replicate n [a]).flatten = List.replicate n a
  | 0 => rfl
  | n + 1 => by rw [List.replicate_succ, List.flatten_cons, rep_one a n]; rfl
theorem rep_ok {α : Type} {xs : List α} {n : Nat} (h : xs.length * n ≤ 1000000) (hn : n ≤ 1000000) : N.rep xs (n : Int) = .ok (List.replicate n xs).flatten := by
  unfold N.rep
  rw [if_pos ⟨by rw [Int.toNat_natCast]; exact h, by omega, by omega⟩, Int.toNat_natCast]
def qT : Nat → D
  | 0 => .tup [.str "name", .str "q"]
  | n + 1 => .tup [.str "plus", qT n, .tup [.str "name", .str "q"]]
def qW : Nat → List Wd
  | 0 => [[113]]
  | n + 1 => qW n ++ [[43]] ++ [[113]]
theorem q_pc : ∀ n : Nat, ∃ l, Pc (qT n) (qW n) l 0
  | 0 => ⟨3, .at (.inl ⟨by decide +kernel, rfl⟩) ok1 (by decide)⟩
  | n + 1 => by
    obtain ⟨l, p⟩ := q_pc n
    exact ⟨0, .plus p (.at (a := [113]) (.inl ⟨by decide +kernel, rfl⟩) ok1 (by decide)) (by decide)⟩
theorem q_len : ∀ n : Nat, (qW n).length = 2 * n + 1
  | 0 => rfl
  | n + 1 => by
    show (qW n ++ [[43]] ++ [[113]]).length = _
    rw [List.length_append, List.length_append, q_len n]; rfl
theorem q_words : ∀ n : Nat, [S [113]] ++ (List.replicate n [S [43], S [113]]).flatten = (qW n).map S
  | 0 => rfl
  | n + 1 => by
    rw [List.replicate_succ', List.flatten_append, ← List.append_assoc, q_words n]
    show _ = (qW n ++ [[43]] ++ [[113]]).map S
    rw [← mS, ← mS, List.append_assoc]; rfl
theorem q_for {κ ρ : Type} : ∀ (xs : List Int) (n : Nat), (forN (fun (k' : Int) (s450 : D) =>
N.s (N.ok (D.tup [(D.str ("plus" : PySem.Str)), s450, (D.tup [(D.str ("name" : PySem.Str)), (D.str ("q" : PySem.Str))])])) fun tree'2 =>
NS.nx tree'2) xs (qT n) : NS D κ ρ) = .nx (qT (n + xs.length))
  | [], n => rfl
  | x :: xs, n => by
    rw [forN_nx (s' := qT (n + 1)) rfl, q_for xs (n + 1)]
    rw [show n + 1 + xs.length = n + (x :: xs).length by simp; omega]
theorem range_ok {n : Nat} (h : n ≤ 1000000) : N.range (n : Int) = .ok ((List.range n).map fun k : Nat => (k : Int)) := by
  unfold N.range
  rw [if_pos ⟨by have : (0 : Int) ≤ 2 ^ 62 := by decide
                 omega, by have : (2 : Int) ^ 62 = 4611686018427387904 := by decide
                           omega⟩, Int.toNat_natCast]
theorem NS_s_nx {σ κ ρ σ' : Type} (s : σ') (k : σ' → NS σ κ ρ) : (NS.s (NS.nx s : NS σ' κ ρ) k) = k s := rfl
theorem edges_ok (c : Int) : n__law_edges c = .ok true := by
  unfold n__law_edges
  have r1 := Int.emod_nonneg c (show (5 : Int) ≠ 0 by decide)
  have r2 := Int.emod_lt_of_pos c (show (0 : Int) < 5 by decide)
  have r3 := Int.emod_nonneg (c / 5) (show (5 : Int) ≠ 0 by decide)
  have r4 := Int.emod_lt_of_pos (c / 5) (show (0 : Int) < 5 by decide)
  rw [mdk, N.bind_ok, N.s_ok, dvk (by decide), N.bind_ok, mdk, N.bind_ok]
  obtain ⟨n, hn⟩ : ∃ n : Nat, 14 + c % 5 = (n : Int) := ⟨(14 + c % 5).toNat, by omega⟩
  obtain ⟨m, hm⟩ : ∃ m : Nat, 58 + c / 5 % 5 = (m : Int) := ⟨(58 + c / 5 % 5).toNat, by omega⟩
  rw [hn, hm, lit_lp, lit_rp, rep_ok (by simp; omega) (by omega), N.bind_ok, rep_ok (by simp; omega) (by omega), rep_one, rep_one, cat_ok (by simp; omega), N.bind_ok, N.bind_ok, cat_ok (by simp; omega), N.s_ok]
  have ew : List.replicate n (S [40]) ++ [("z" : PySem.Str)] ++ List.replicate n (S [41]) = (zW n).map S := by
    unfold zW
    rw [← mS, ← mS, List.map_replicate, List.map_replicate]; rfl
  rw [ew]
  have zl : (zW n).length = 2 * n + 1 := by unfold zW; simp; omega
  have first : (if (decide ((n : Int) < 17)) = true then
N.s (N.not (N.bind (n_tree_of ((zW n).map S)) fun x443 => (n__law_alike x443 (D.tup [(D.str ("name" : PySem.Str)), (D.str ("z" : PySem.Str))])))) fun b445 => if b445 = true then
NS.rt false
else
NS.nx ()
else
N.s (N.not (n__law_refused ((zW n).map S))) fun b446 => if b446 = true then
NS.rt false
else
(NS.nx () : NS Unit Unit Bool)) = .nx () := by
    by_cases h : n < 17
    · rw [decide_eq_true (show (n : Int) < 17 by omega), if_pos rfl, tree_ok (z_pc n) (by omega) (by omega), N.bind_ok, alike_ok (z_pc n) (by omega)]; rfl
    · rw [decide_eq_false (show ¬ (n : Int) < 17 by omega), if_neg (by decide)]
      have lb : lookB 0 (zW n) = false := by
        cases e : lookB 0 (zW n) with
        | false => rfl
        | true =>
          have q := (look_all e 17 (by omega) (by decide)).2
          have e17 : pre bW (zW n) 17 = 17 := by
            unfold pre zW
            rw [List.append_assoc, List.take_append_of_le_length (by rw [List.length_replicate]; omega), List.take_replicate, Nat.min_eq_left (by omega)]
            decide
          rw [e17] at q
          omega
      rw [refused_ok (tree_look (pc_wok (z_pc n)) lb)]; rfl
  rw [first]
  rw [NS_s_nx, N.s_ok]
  show NS.f (N.s (N.ok (qT 0)) _) = _
  rw [N.s_ok]
  obtain ⟨j, rfl⟩ : ∃ j, m = j + 1 := ⟨m - 1, by omega⟩
  rw [show (((j + 1 : Nat) : Int) - 1) = (j : Int) by omega, range_ok (by omega), N.s_ok, q_for, NS_s_nx, Nat.zero_add, List.length_map, List.length_range, rep_ok (by simp; omega) (by omega), N.bind_ok]
  show NS.f (N.s (N.cat [S [113]] (List.replicate j [S [43], S [113]]).flatten) _) = _
  obtain ⟨l, p⟩ := q_pc j
  have ql := q_len j
  have fl : (List.replicate j [S [43], S [113]]).flatten.length = j * 2 := by
    rw [List.length_flatten, List.map_replicate, List.sum_replicate_nat]; rfl
  rw [cat_ok (by rw [fl]; simp; omega), q_words, N.s_ok]
  by_cases h : j + 1 < 61
  · rw [decide_eq_true (show ((j + 1 : Nat) : Int) < 61 by omega), if_pos rfl, tree_ok p (by omega) (by omega), N.bind_ok, alike_ok p (by omega)]; rfl
  · rw [decide_eq_false (show ¬ ((j + 1 : Nat) : Int) < 61 by omega), if_neg (by decide), refused_ok (tree_long (by omega))]; rfl
end Q
end Lw
namespace Lw
open Bn
namespace Q
open SX (S S_len S_cat S_beq_eq)
open PySem.NumText (AllDigits digitsVal)
theorem sgn_in (a : Wd) : N.gb (gIn true (D.str (S a)) (D.tup [(D.str ("(" : PySem.Str)), (D.str (")" : PySem.Str)), (D.str ("+" : PySem.Str)), (D.str ("-" : PySem.Str)), (D.str ("*" : PySem.Str)), (D.str ("^" : PySem.Str))])) = .ok (!sgnB a) := by
  have e : gIn true (.str (S a)) (.tup ([S [40], S [41], S [43], S [45], S [42], S [94]].map D.str)) = some (D.bl (!([S [40], S [41], S [43], S [45], S [42], S [94]].any fun y => y == S a))) := by
    show (if flatD (.str (S a)) = true ∧ ([S [40], S [41], S [43], S [45], S [42], S [94]].map D.str).all flatD = true then some (D.bl (!(L2.inV (toV (.str (S a))) (([S [40], S [41], S [43], S [45], S [42], S [94]].map D.str).map toV)))) else none) = _
    rw [if_pos ⟨rfl, rfl⟩]
    refine congrArg (fun b => some (D.bl (!b))) ?_
    unfold L2.inV
    rw [List.any_map, List.any_map]; rfl
  have e2 : N.gb (gIn true (.str (S a)) (.tup ([S [40], S [41], S [43], S [45], S [42], S [94]].map D.str))) = .ok (!sgnB a) := by
    rw [e]
    unfold N.gb
    refine congrArg (fun b => N.ok (!b)) ?_
    show (S [40] == S a || (S [41] == S a || (S [43] == S a || (S [45] == S a || (S [42] == S a || (S [94] == S a || false)))))) = _
    unfold sgnB
    have sw : ∀ b : Wd, (S b == S a) = (a == b) := fun b => by
      rw [S_beq_eq]
      by_cases h : b = a
      · subst h; rw [decide_eq_true rfl, beq_self_eq_true]
      · rw [decide_eq_false h, beq_eq_false_iff_ne.mpr fun q => h q.symm]
    rw [sw, sw, sw, sw, sw, sw, Bool.or_false]
  exact e2
theorem grow_all {κ ρ : Type} : ∀ (xs : List Int) (n : Nat) (L : List P4), PL n L → n + xs.length ≤ 1000 → ∃ L', (forN (fun (cell' : Int) (s469 : (List (D × (List PySem.Str) × Int × Int))) =>
N.s (N.bind (N.mod cell' 10000000000000) fun x474 => (n__law_grown s469 x474)) fun pieces'3 =>
NS.nx pieces'3) xs L : NS (List P4) κ ρ) = .nx L' ∧ PL (n + xs.length) L'
  | [], n, L, h, _ => ⟨L, rfl, h⟩
  | x :: xs, n, L, h, hl => by
    have r1 := Int.emod_nonneg x (show (10000000000000 : Int) ≠ 0 by decide)
    obtain ⟨L1, e, g⟩ := grown_ok h (by omega) r1
    obtain ⟨L2, e2, g2⟩ := grow_all (κ := κ) (ρ := ρ) xs (n + 1) L1 g (by simp at hl; omega)
    refine ⟨L2, ?_, by rw [show n + (x :: xs).length = n + 1 + xs.length by simp; omega]; exact g2⟩
    rw [forN_nx (s' := L1), e2]
    show N.s (N.bind (N.mod x 10000000000000) _) _ = _
    rw [mdk, N.bind_ok, e]; rfl
theorem join_all {κ ρ : Type} : ∀ (xs : List P4) (p : P4), (∀ q ∈ xs, PcP 119 16 q) → PcP 119 16 p → ∃ q, (forN (fun (other' : (D × (List PySem.Str) × Int × Int)) (s477 : (D × (List PySem.Str) × Int × Int)) =>
N.s (n__law_joined 0 s477 other') fun grown'1 =>
N.s (n__law_fits grown'1) fun b479 => if b479 = true then
NS.nx grown'1
else
NS.nx s477) xs p : NS P4 κ ρ) = .nx q ∧ PcP 119 16 q
  | [], p, _, h => ⟨p, rfl, h⟩
  | x :: xs, p, hx, h => by
    obtain ⟨q, e, g⟩ := joined_ok h (hx x List.mem_cons_self) (by decide) (by decide) (w := 0) (.inl rfl)
    obtain ⟨b, eb, hb⟩ := fits_ok g
    obtain ⟨p', ep, hp'⟩ : ∃ p', (N.s (n__law_joined 0 p x) fun grown'1 => N.s (n__law_fits grown'1) fun b479 => if b479 = true then (NS.nx grown'1 : NS P4 P4 ρ) else NS.nx p) = .nx p' ∧ PcP 119 16 p' := by
      rw [e, N.s_ok, eb, N.s_ok]
      cases b with
      | true => exact ⟨q, rfl, hb rfl⟩
      | false => exact ⟨p, rfl, h⟩
    obtain ⟨q2, e2, g2⟩ := join_all (κ := κ) (ρ := ρ) xs p' (fun q hq => hx q (List.mem_cons_of_mem _ hq)) hp'
    exact ⟨q2, by rw [forN_nx ep, e2], g2⟩
theorem cut_len {α : Type} (xs : List α) : (cutL xs (some 3) (some 45)).length ≤ 42 := by
  have : cutL xs (some ((3 : Nat) : Int)) (some ((45 : Nat) : Int)) = (xs.drop (min 3 xs.length)).take (min 45 xs.length - min 3 xs.length) := by
    unfold cutL
    rw [HT.sIx_nat, HT.sIx_nat]
  rw [show cutL xs (some 3) (some 45) = cutL xs (some ((3 : Nat) : Int)) (some ((45 : Nat) : Int)) from rfl, this, List.length_take, List.length_drop]
  omega
theorem cut_tl {α : Type} (a : α) (r : List α) : cutL (a :: r) (some 1) none = r := by
  have := cut_fromL (a :: r) (c := 1) (by simp)
  exact this
def atomQ (ws : List Wd) (k : Int) : Bool := !sgnB (wa ws k.toNat) && (decide (k = 0) || !decide (wa ws (k.toNat - 1) = [94]))
theorem atoms_ok {ws : List Wd} (ok : WOk ws) (hn : ws.length ≤ 1000) : (N.bind (N.range (((ws.map S).length : Nat) : Int)) fun x504 => lcN (fun (k' : Int) => (N.and (N.bind (N.ix (ws.map S) k') fun x501 => (N.gb (gIn true (D.str x501) (D.tup [(D.str ("(" : PySem.Str)), (D.str (")" : PySem.Str)), (D.str ("+" : PySem.Str)), (D.str ("-" : PySem.Str)), (D.str ("*" : PySem.Str)), (D.str ("^" : PySem.Str))])))) (N.or (N.ok (decide (k' = 0))) (N.bind (N.ix (ws.map S) (k' - 1)) fun x503 => (N.gb (gNe (D.str x503) (D.str ("^" : PySem.Str)))))))) (fun (k' : Int) => (N.ok k')) x504) = .ok ((((List.range ws.length).map fun k : Nat => (k : Int)).filter (atomQ ws)).map fun k => k) := by
  rw [List.length_map, range_ok (by omega), N.bind_ok]
  refine lcN_filter (by simp; omega) (fun k hk => ?_) fun k _ _ => rfl
  obtain ⟨j, hj, rfl⟩ := List.mem_map.mp hk
  have hj' : j < ws.length := List.mem_range.mp hj
  have ix : ∀ i : Nat, i < ws.length → N.ix (ws.map S) (i : Int) = .ok (S (wa ws i)) := fun i hi => N.ix_ok (by rw [List.getElem?_map, List.getElem?_eq_getElem hi, wa_lt hi]; rfl)
  rw [ix j hj', N.bind_ok, sgn_in]
  unfold atomQ
  rw [Int.toNat_natCast]
  cases sgnB (wa ws j) with
  | true => rfl
  | false =>
    show N.or (N.ok (decide ((j : Int) = 0))) _ = _
    by_cases z : j = 0
    · subst z; rfl
    · rw [decide_eq_false (show ¬ (j : Int) = 0 by omega)]
      obtain ⟨w1, _⟩ := ok.wa (j - 1)
      show N.bind (N.ix (ws.map S) ((j : Int) - 1)) _ = _
      rw [show ((j : Int) - 1) = ((j - 1 : Nat) : Int) by omega, ix (j - 1) (by omega), N.bind_ok, lit_ca, ne_S w1 ok1]
      rfl
theorem atoms_ne {t : D} {ws : List Wd} {l d : Nat} (p : Pc t ws l d) : (((List.range ws.length).map fun k : Nat => (k : Int)).filter (atomQ ws)) ≠ [] := by
  obtain ⟨m, a, tl, t', e, h⟩ := pc_lead p
  have hm : m < ws.length := by rw [e]; simp
  have e1 : wa ws m = a := by
    rw [e]
    have := wa_end (pr := List.replicate m [40]) (rest := a :: tl)
    rw [List.length_replicate] at this
    exact this
  have q : atomQ ws (m : Int) = true := by
    unfold atomQ
    rw [Int.toNat_natCast, e1, (atw_no h).1]
    by_cases z : m = 0
    · subst z; rfl
    · have e2 : wa ws (m - 1) = [40] := by
        rw [e]
        unfold wa
        rw [List.getD_eq_getElem?_getD, List.getElem?_append_left (by rw [List.length_replicate]; omega), List.getElem?_replicate, if_pos (by omega)]; rfl
      rw [e2, decide_eq_false (show ¬ (m : Int) = 0 by omega)]; decide
  intro z
  have : ((m : Nat) : Int) ∈ (((List.range ws.length).map fun k : Nat => (k : Int)).filter (atomQ ws)) := List.mem_filter.mpr ⟨List.mem_map.mpr ⟨m, List.mem_range.mpr hm, rfl⟩, q⟩
  rw [z] at this; cases this
theorem n_law_ok (sc : List Int) : n_law sc = .ok true := by
  obtain ⟨c0, h0⟩ := cell_any sc (k := 0) (by decide)
  obtain ⟨c1, h1⟩ := cell_any sc (k := 1) (by decide)
  obtain ⟨c2, h2⟩ := cell_any sc (k := 2) (by decide)
  unfold n_law
  rw [h0, h1, h2]
  have r0 := Int.emod_nonneg c0 (show (1000000000000 : Int) ≠ 0 by decide)
  obtain ⟨pa, ea, ga⟩ := atom_ok r0
  rw [N.bind_ok, mdk, N.bind_ok, ea, N.bind_ok, N.s_ok, N.s_ok]
  obtain ⟨L, eL, gL⟩ := grow_all (κ := Unit) (ρ := Bool) (cutL sc (some 3) (some 45)) 1 [pa] ⟨by simp, by simp, fun q hq => by rw [List.mem_singleton.mp hq]; exact ga.mono (by decide) (by decide)⟩ (by have := cut_len sc; omega)
  rw [eL, NS_s_nx]
  obtain ⟨g1, _, g3⟩ := gL
  obtain ⟨p0, r, rfl⟩ : ∃ a r, L = a :: r := by cases L with | nil => exact absurd rfl g1 | cons a r => exact ⟨a, r, rfl⟩
  rw [show (0 : Int) = ((0 : Nat) : Int) from rfl, N.ix_ok (xs := p0 :: r) (k := 0) rfl, N.s_ok, cut_tl, N.s_ok]
  obtain ⟨q, eq, gq⟩ := join_all (κ := Unit) (ρ := Bool) r p0 (fun x hx => g3 x (List.mem_cons_of_mem _ hx)) (g3 p0 List.mem_cons_self)
  rw [show ((0 : Nat) : Int) = 0 from rfl, eq, NS_s_nx]
  obtain ⟨ws, l, d, e1, e2, e3, pc, hw, hd⟩ := gq
  have ok := pc_wok pc
  have tr := tree_ok pc (by omega) hd
  have T := told_of ok (by omega) tr
  have len0 : 1 ≤ ws.length := (pc_alike pc).2.1
  have same : N.gb (gNe (D.lst false ((ws.map S).map fun (z : PySem.Str) => (D.str z))) (D.lst false ((ws.map S).map fun (z : PySem.Str) => (D.str z)))) = .ok false := by
    have o : Ok 1 (D.lst false ((ws.map S).map fun (z : PySem.Str) => (D.str z))) := ok_lst fun x hx => by
      rw [List.map_map] at hx
      obtain ⟨a, ha, rfl⟩ := List.mem_map.mp hx
      exact ok_str (sok (ok a ha).1)
    rw [vNeX o o rfl]; unfold N.gb; rfl
  have lm : (((ws.map S).length : Nat) : Int) = (ws.length : Int) := by rw [List.length_map]
  rw [e1, tr, N.bind_ok, alike_ok pc (by omega), same]
  show NS.f (N.s (N.bind (N.ok c1) _) _) = _
  rw [N.bind_ok, N.mod_ok (by rw [lm]; omega), N.s_ok, lm]
  have a1 := Int.emod_nonneg c1 (show (ws.length : Int) ≠ 0 by omega)
  have a2 := Int.emod_lt_of_pos c1 (show (0 : Int) < (ws.length : Int) by omega)
  obtain ⟨i, hi⟩ : ∃ i : Nat, c1 % (ws.length : Int) = (i : Int) := ⟨(c1 % (ws.length : Int)).toNat, by omega⟩
  rw [hi] at a2 ⊢
  have hi' : i < ws.length := by omega
  have hiS : i < (ws.map S).length := by rw [List.length_map]; exact hi'
  have len : (ws.map S).length = ws.length := List.length_map _
  have lo := left_out ok hw T hi'
  have db := doubled ok hw T hi'
  have cuts : (N.or (N.not (N.bind (N.cat (cutL (ws.map S) none (some (i : Int))) (cutL (ws.map S) (some ((i : Int) + 1)) none)) fun x489 => (n__law_refused x489))) (N.not (N.bind (N.bind (N.cat (cutL (ws.map S) none (some (i : Int))) (cutL (ws.map S) (some (i : Int)) (some ((i : Int) + 1)))) fun x490 => (N.cat x490 (cutL (ws.map S) (some (i : Int)) none))) fun x491 => (n__law_refused x491)))) = .ok false := by
    rw [show ((i : Int) + 1) = ((i + 1 : Nat) : Int) by omega, cut_toL _ (by omega), cut_fromL _ (by omega), cut_fromL _ (by omega), cut_oneL _ hiS]
    rw [cat_ok (by simp; omega), N.bind_ok, cat_ok (by simp; omega), N.bind_ok, cat_ok (by simp; omega), N.bind_ok]
    rw [← List.map_take, ← List.map_drop, ← List.map_drop, ← List.map_take, mS, mS, mS, lo, db]; rfl
  rw [cuts, N.s_ok, if_neg (by decide)]
  have pow : (if (decide ((ws.length : Int) < 119)) = true then
N.s (N.bind (N.bind (N.ok c2) fun x496 => (N.mod x496 10)) fun x497 => (N.ix [("0" : PySem.Str), ("1" : PySem.Str), ("7" : PySem.Str), ("-2" : PySem.Str), ("02" : PySem.Str), ("x" : PySem.Str), ("" : PySem.Str), ("2/3" : PySem.Str), ("22" : PySem.Str), ("(" : PySem.Str)] x497)) fun many'1 =>
N.s (N.not (N.bind (N.cat (ws.map S) [("^" : PySem.Str), many'1]) fun x498 => (n__law_refused x498))) fun b499 => if b499 = true then
NS.rt false
else
NS.nx ()
else
(NS.nx () : NS Unit Unit Bool)) = .nx () := by
    by_cases h : (ws.length : Int) < 119
    · rw [decide_eq_true h, if_pos rfl, N.bind_ok, mdk, N.bind_ok]
      obtain ⟨a, ha, e⟩ := pick (xs := tenA) (f := S) (c := c2) (n := 10) rfl (by decide)
      have e' : N.ix [("0" : PySem.Str), ("1" : PySem.Str), ("7" : PySem.Str), ("-2" : PySem.Str), ("02" : PySem.Str), ("x" : PySem.Str), ("" : PySem.Str), ("2/3" : PySem.Str), ("22" : PySem.Str), ("(" : PySem.Str)] (c2 % 10) = .ok (S a) := e
      rw [e', N.s_ok, cat_ok (by rw [len]; simp; omega), N.bind_ok]
      have ew : ws.map S ++ [("^" : PySem.Str), S a] = (ws ++ [[94], a]).map S := by rw [← mS]; rfl
      rw [ew, powered ok hw ha]; rfl
    · rw [decide_eq_false h]; rfl
  rw [pow, NS_s_nx, N.s_ok]
  have at0 := atoms_ok ok (by omega)
  rw [lm] at at0
  rw [at0, N.s_ok, List.map_id']
  have ne := atoms_ne pc
  generalize hA : (((List.range ws.length).map fun k : Nat => (k : Int)).filter (atomQ ws)) = A at ne
  have A0 : 0 < A.length := Nat.pos_of_ne_zero fun z => ne (List.length_eq_zero_iff.mp z)
  rw [N.bind_ok, dvk (by decide), N.bind_ok, N.mod_ok (by omega), N.bind_ok]
  obtain ⟨k, hk, ek⟩ := pick (xs := A) (f := fun x => x) (c := c1 / 7) (n := (A.length : Int)) rfl (by omega)
  rw [List.map_id'] at ek
  rw [ek, N.s_ok]
  rw [← hA] at hk
  obtain ⟨j, hj, rfl⟩ := List.mem_map.mp (List.mem_filter.mp hk).1
  have hj' : j < ws.length := List.mem_range.mp hj
  obtain ⟨na, hna, ena⟩ := no_atom_ok (c2 / 250)
  rw [N.bind_ok, dvk (by decide), N.bind_ok, ena, N.bind_ok, N.bind_ok, show ((j : Int) + 1) = ((j + 1 : Nat) : Int) by omega, cut_toL _ (by omega), cut_fromL _ (by omega), cat_ok (by simp; omega), N.bind_ok, cat_ok (by simp; omega), N.bind_ok]
  have ew : (ws.map S).take j ++ [S na] ++ (ws.map S).drop (j + 1) = (ws.take j ++ [na] ++ ws.drop (j + 1)).map S := by
    rw [← mS, ← mS, List.map_take, List.map_drop]; rfl
  rw [ew, changed ok hw hna j]
  show NS.f (N.s (N.bind (N.bind (N.ok c2) _) _) _) = _
  rw [N.bind_ok, dvk (by decide), N.bind_ok, edges_ok]
  rfl
end Q
theorem law_true (sc : List Int) (h : sc.length ≤ 63) : f_law [.cst (sc.map D.int)] = .ok (.bl true) := by
  obtain ⟨d, e, q⟩ := vf_law.ok (a := sc) (ds := [.cst (sc.map D.int)]) ⟨_, rfl, rfl⟩ (Q.n_law_ok sc)
  rw [e]
  cases (show d = .bl true from q)
  rfl
end Lw
namespace Lw
open PySem PySem.Spec PyProof.Rows L2 Bn
structure Tx (w : World) (K : PySem.W.Frag) (mg : Str → Option Value) (ca : Str → Addr) : Prop where
  abs_ : mg "abs" = none
  bool_ : mg "bool" = none
  int_ : mg "int" = none
  isinstance : mg "isinstance" = none
  len_ : mg "len" = none
  list_ : mg "list" = none
  max_ : mg "max" = none
  range : mg "range" = none
  str_ : mg "str" = none
  tuple_ : mg "tuple" = none
  x_BoxError : Ec K mg ca "BoxError"
  x_NoNumber : Ec K mg ca "NoNumber"
  x_NoRow : Ec K mg ca "NoRow"
  k_DEEPEST : Kc K mg "DEEPEST" Lw.k_DEEPEST
  k_FIGURES : Kc K mg "FIGURES" Lw.k_FIGURES
  k_KEPT : Kc K mg "KEPT" Lw.k_KEPT
  k_LETTERS : Kc K mg "LETTERS" Lw.k_LETTERS
  k_LONGEST : Kc K mg "LONGEST" Lw.k_LONGEST
  kd_POWERS : Kd K w mg "POWERS" Lw.kd_POWERS
  h_BoxError : ∀ y t, sub_BoxError y = some t → PySem.W.exmOne K (.ref (ca y)) (.ref (ca "BoxError")) = some t
  n_BoxError : mg "BoxError" = some (.ref (ca "BoxError")) ∨ (mg "BoxError" = none ∧ bootBuiltins "BoxError" = some (.ref (ca "BoxError")) ∧ ("BoxError" : Str) ≠ "__name__")
  i_NoRow : ∀ y t, is_NoRow y = some t → ExcC K (ca y) ∧ PySem.W.kitOne K (.ref (ca y)) (.ref (ca "NoRow")) = some t
section
variable {P : Program} {w : World} {K : PySem.W.Frag} {mg : Str → Option Value} {base : Heap} {ca : Str → Addr}
theorem ok_look_at_brackets (T : Tx w K mg ca)  {f : Addr} {fd : FuncData} (F : Fun K "look_at_brackets" "look_at_brackets" s_look_at_brackets f fd) : FnOk P w K mg base (L2.CX P w) 1 f fd ["words"] (spP K ca f_look_at_brackets) :=
  fn_ok F sc_look_at_brackets fun cdv A outer s H E F0 R hr c => (s_cons (s_set (i := 1) sc_look_at_brackets.nd rfl (.inl rfl) (e_z z_int))
    (s_one (s_for c (i_list (e_var (pv 0))) (g_name (i := 2) sc_look_at_brackets.nd rfl (.inl rfl)) (s_cons (s_if (t_cmpZ (op_eqD hr.units) sEq (z_var (pv 2)) z_str) (s_one (s_set (i := 1) sc_look_at_brackets.nd rfl (.inl rfl) (e_z (z_op op_add sAdd (z_var (pv 1)) z_int)))) s_nil)
    (s_cons (s_if (t_cmpZ (op_eqD hr.units) sEq (z_var (pv 2)) z_str) (s_one (s_set (i := 1) sc_look_at_brackets.nd rfl (.inl rfl) (e_z (z_op op_sub sSub (z_var (pv 1)) z_int)))) s_nil)
    (s_one (s_if (PW.pt (t_or (t_cmpZ op_lt sLt (z_var (pv 1)) z_int) (t_or1 (t_cmpZ op_gt sGt (z_var (pv 1)) (z_k T.k_DEEPEST (by rfl)))))) (s_one (s_raise c T.x_NoRow (by rfl))) s_nil)))))))
theorem ok_word_at (T : Tx w K mg ca)  {f : Addr} {fd : FuncData} (F : Fun K "word_at" "word_at" s_word_at f fd) : FnOk P w K mg base (L2.CX P w) 1 f fd ["words", "at"] (spP K ca f_word_at) :=
  fn_ok F sc_word_at fun cdv A outer s H E F0 R hr c => (s_cons (s_if (t_cmpZ op_lt sLt (z_var (pv 1)) (z_callB call_len sLen (by rfl) T.len_ (by decide +kernel) (za_cons (z_var (pv 0)) za_nil))) (s_one (s_ret (e_z (z_ix ix_seq sIx (z_var (pv 0)) (z_var (pv 1)))))) s_nil)
    (s_one (s_ret (e_z z_str))))
theorem ok_is_name (T : Tx w K mg ca)  {f : Addr} {fd : FuncData} (F : Fun K "is_name" "is_name" s_is_name f fd) : FnOk P w K mg base (L2.CX P w) 1 f fd ["word"] (spP K ca f_is_name) :=
  fn_ok F sc_is_name fun cdv A outer s H E F0 R hr c => (s_cons (s_if (PW.pt (t_or (t_cmpZ (op_eqD hr.units) sEq (z_var (pv 0)) z_str) (t_or (t_cmpZ op_gt sGt (z_callB call_len sLen (by rfl) T.len_ (by decide +kernel) (za_cons (z_var (pv 0)) za_nil)) z_int) (t_or1 (t_cmpZ op_in_seq sIn (z_var (pv 0)) (z_k T.k_KEPT (by rfl))))))) (s_one (s_ret (e_z z_bl))) s_nil)
    (s_cons (s_for c (i_str (e_var (pv 0))) (g_name (i := 1) sc_is_name.nd rfl (.inl rfl)) (s_one (s_if (t_cmpZ op_notIn_sign sNotInS (z_var (pv 1)) (z_k T.k_LETTERS (by rfl))) (s_one (s_ret (e_z z_bl))) s_nil)))
    (s_one (s_ret (e_z z_bl)))))
theorem ok_whole_of (T : Tx w K mg ca)  {f : Addr} {fd : FuncData} (F : Fun K "whole_of" "whole_of" s_whole_of f fd) : FnOk P w K mg base (L2.CX P w) 1 f fd ["figures"] (spP K ca f_whole_of) :=
  fn_ok F sc_whole_of fun cdv A outer s H E F0 R hr c => (s_cons (s_if (PW.pt (t_or (t_cmpZ (op_eqD hr.units) sEq (z_var (pv 0)) z_str) (t_or1 (t_cmpZ op_gt sGt (z_callB call_len sLen (by rfl) T.len_ (by decide +kernel) (za_cons (z_var (pv 0)) za_nil)) z_int)))) (s_one (s_raise c T.x_NoRow (by rfl))) s_nil)
    (s_cons (s_for c (i_str (e_var (pv 0))) (g_name (i := 1) sc_whole_of.nd rfl (.inl rfl)) (s_one (s_if (t_cmpZ op_notIn_sign sNotInS (z_var (pv 1)) (z_k T.k_FIGURES (by rfl))) (s_one (s_raise c T.x_NoRow (by rfl))) s_nil)))
    (s_cons (s_if (PW.pt (t_and (t_cmpZ (op_eqD hr.units) sEq (z_ix ix_seq sIx (z_var (pv 0)) z_int) z_str) (t_and1 (t_cmpZ op_gt sGt (z_callB call_len sLen (by rfl) T.len_ (by decide +kernel) (za_cons (z_var (pv 0)) za_nil)) z_int)))) (s_one (s_raise c T.x_NoRow (by rfl))) s_nil)
    (s_one (s_ret (e_callTy call_int_str sIntS (by rfl) T.int_ (by decide +kernel) (a_cons (e_var (pv 0)) a_nil)))))))
theorem ok_divisor (T : Tx w K mg ca)  {f : Addr} {fd : FuncData} (F : Fun K "divisor" "divisor" s_divisor f fd) : FnOk P w K mg base (L2.CX P w) 1 f fd ["a", "b"] (spP K ca f_divisor) :=
  fn_ok F sc_divisor fun cdv A outer s H E F0 R hr c => (s_cons (s_set (i := 0) sc_divisor.nd rfl (.inl rfl) (e_z (z_callB call_abs sAbs (by rfl) T.abs_ (by decide +kernel) (za_cons (z_var (pv 0)) za_nil))))
    (s_cons (s_set (i := 1) sc_divisor.nd rfl (.inl rfl) (e_z (z_callB call_abs sAbs (by rfl) T.abs_ (by decide +kernel) (za_cons (z_var (pv 1)) za_nil))))
    (s_cons (s_while c fuel_divisor1 (t_cmpZ op_gt sGt (z_var (pv 1)) z_int) (s_cons (s_set (i := 2) sc_divisor.nd rfl (.inl rfl) (e_z (z_op op_mod sMod (z_var (pv 0)) (z_var (pv 1)))))
    (s_cons (s_set (i := 0) sc_divisor.nd rfl (.inl rfl) (e_var (pv 1)))
    (s_one (s_set (i := 1) sc_divisor.nd rfl (.inl rfl) (e_var (pv 2)))))))
    (s_one (s_ret (e_mv (pv 0)))))))
theorem ok_fraction (T : Tx w K mg ca) (G_divisor : Fo P w K mg base ca 1 "divisor" f_divisor) {f : Addr} {fd : FuncData} (F : Fun K "fraction" "fraction" s_fraction f fd) : FnOk P w K mg base (L2.CX P w) 2 f fd ["top", "bottom"] (spP K ca f_fraction) :=
  fn_ok F sc_fraction fun cdv A outer s H E F0 R hr c => (s_cons (s_if (t_cmpZ (op_eqD hr.units) sEq (z_var (pv 1)) z_int) (s_one (s_raise c T.x_NoNumber (by rfl))) s_nil)
    (s_cons (s_if (t_cmpZ op_lt sLt (z_var (pv 1)) z_int) (s_cons (s_set (i := 0) sc_fraction.nd rfl (.inl rfl) (e_z (z_un un_neg sNeg (z_var (pv 0)))))
    (s_one (s_set (i := 1) sc_fraction.nd rfl (.inl rfl) (e_z (z_un un_neg sNeg (z_var (pv 1))))))) s_nil)
    (s_cons (s_set (i := 2) sc_fraction.nd rfl (.inl rfl) (e_call c G_divisor hr (by rfl) (a_cons (e_var (pv 0)) (a_cons (e_var (pv 1)) a_nil))))
    (s_one (s_ret (e_tup (a_cons (e_z (z_op op_fdivW sDiv (z_var (pv 0)) (z_var (pv 2)))) (a_cons (e_z (z_op op_fdivW sDiv (z_var (pv 1)) (z_var (pv 2)))) a_nil))))))))
theorem ok_number_of (T : Tx w K mg ca) (G_whole_of : Fo P w K mg base ca 1 "whole_of" f_whole_of) (G_fraction : Fo P w K mg base ca 2 "fraction" f_fraction) {f : Addr} {fd : FuncData} (F : Fun K "number_of" "number_of" s_number_of f fd) : FnOk P w K mg base (L2.CX P w) 3 f fd ["word"] (spP K ca f_number_of) :=
  fn_ok F sc_number_of fun cdv A outer s H E F0 R hr c => (s_cons (s_set (i := 1) sc_number_of.nd rfl (.inl rfl) (e_split (e_var (pv 0)) (e_z z_str)))
    (s_cons (s_if (t_cmpZ op_gt sGt (z_callB call_len sLen (by rfl) T.len_ (by decide +kernel) (za_cons (z_var (pv 1)) za_nil)) z_int) (s_one (s_raise c T.x_NoRow (by rfl))) s_nil)
    (s_cons (s_if (t_cmpE (op_eqD hr.units) sEq (e_sliceS (e_z (z_ix ix_seq sIx (z_var (pv 1)) z_int)) pe_none (pe_some (e_z z_int))) (e_z z_str)) (s_cons (s_set (i := 2) sc_number_of.nd rfl (.inl rfl) (e_un un_neg sNeg (e_call c G_whole_of hr (by rfl) (a_cons (e_sliceS (e_z (z_ix ix_seq sIx (z_var (pv 1)) z_int)) (pe_some (e_z z_int)) pe_none) a_nil))))
    (s_one (s_if (t_cmpZ (op_eqD hr.units) sEq (z_var (pv 2)) z_int) (s_one (s_raise c T.x_NoRow (by rfl))) s_nil))) (s_one (s_set (i := 2) sc_number_of.nd rfl (.inl rfl) (e_call c G_whole_of hr (by rfl) (a_cons (e_z (z_ix ix_seq sIx (z_var (pv 1)) z_int)) a_nil)))))
    (s_cons (s_if (t_cmpZ (op_eqD hr.units) sEq (z_callB call_len sLen (by rfl) T.len_ (by decide +kernel) (za_cons (z_var (pv 1)) za_nil)) z_int) (s_one (s_ret (e_tup (a_cons (e_var (pv 2)) (a_cons (e_z z_int) a_nil))))) s_nil)
    (s_cons (s_set (i := 3) sc_number_of.nd rfl (.inl rfl) (e_call c G_whole_of hr (by rfl) (a_cons (e_z (z_ix ix_seq sIx (z_var (pv 1)) z_int)) a_nil)))
    (s_cons (s_if (PW.pt (t_or (t_cmpZ op_lt sLt (z_var (pv 3)) z_int) (t_or1 (t_cmpE (op_neD hr.units) sNe (e_call c G_fraction hr (by rfl) (a_cons (e_var (pv 2)) (a_cons (e_var (pv 3)) a_nil))) (e_tup (a_cons (e_var (pv 2)) (a_cons (e_var (pv 3)) a_nil))))))) (s_one (s_raise c T.x_NoRow (by rfl))) s_nil)
    (s_one (s_ret (e_tup (a_cons (e_var (pv 2)) (a_cons (e_var (pv 3)) a_nil)))))))))))
theorem ok_atom_at (T : Tx w K mg ca) {lr : Nat} (hlr : 3 ≤ lr) (G_word_at : Fo P w K mg base ca 1 "word_at" f_word_at) (G_is_name : Fo P w K mg base ca 1 "is_name" f_is_name) (G_number_of : Fo P w K mg base ca 3 "number_of" f_number_of) {r_sum_at : List D → CR} (G_sum_at : Fo P w K mg base ca lr "sum_at" r_sum_at) {f : Addr} {fd : FuncData} (F : Fun K "atom_at" "atom_at" s_atom_at f fd) : FnOk P w K mg base (L2.CX P w) (lr + 0 + 1) f fd ["words", "at"] (spP K ca (callF 2 5 (m_atom_at r_sum_at))) :=
  fn_ok F sc_atom_at fun cdv A outer s H E F0 R hr c => (s_cons (s_set (i := 2) sc_atom_at.nd rfl (.inl rfl) (e_call c G_word_at hr (by rfl) (a_cons (e_var (pv 0)) (a_cons (e_var (pv 1)) a_nil)) (hk := by omega)))
    (s_cons (s_if (t_cmpZ (op_eqD hr.units) sEq (z_var (pv 2)) z_str) (s_cons (s_set (i := 3) sc_atom_at.nd rfl (.inl rfl) (e_call c G_sum_at hr (by rfl) (a_cons (e_var (pv 0)) (a_cons (e_z (z_op op_add sAdd (z_var (pv 1)) z_int)) a_nil)) (hk := by omega)))
    (s_cons (s_if (t_cmpE (op_neD hr.units) sNe (e_call c G_word_at hr (by rfl) (a_cons (e_var (pv 0)) (a_cons (e_z (z_ix ix_seq sIx (z_var (pv 3)) z_int)) a_nil)) (hk := by omega)) (e_z z_str)) (s_one (s_raise c T.x_NoRow (by rfl))) s_nil)
    (s_one (s_ret (e_tup (a_cons (e_z (z_ix ix_seq sIx (z_var (pv 3)) z_int)) (a_cons (e_z (z_op op_add sAdd (z_ix ix_seq sIx (z_var (pv 3)) z_int) z_int)) a_nil))))))) s_nil)
    (s_cons (s_if (t_valE (e_call c G_is_name hr (by rfl) (a_cons (e_var (pv 2)) a_nil) (hk := by omega))) (s_one (s_ret (e_tup (a_cons (e_tup (a_cons (e_z z_str) (a_cons (e_var (pv 2)) a_nil))) (a_cons (e_z (z_op op_add sAdd (z_var (pv 1)) z_int)) a_nil))))) s_nil)
    (s_cons (s_set (i := 4) sc_atom_at.nd rfl (.inl rfl) (e_call c G_number_of hr (by rfl) (a_cons (e_var (pv 2)) a_nil) (hk := by omega)))
    (s_one (s_ret (e_tup (a_cons (e_tup (a_cons (e_z z_str) (a_cons (e_z (z_ix ix_seq sIx (z_var (pv 4)) z_int)) (a_cons (e_z (z_ix ix_seq sIx (z_var (pv 4)) z_int)) a_nil)))) (a_cons (e_z (z_op op_add sAdd (z_var (pv 1)) z_int)) a_nil)))))))))
theorem ok_power_at (T : Tx w K mg ca) {lr : Nat} (hlr : 3 ≤ lr) {r_atom_at : List D → CR} (G_atom_at : Fo P w K mg base ca lr "atom_at" r_atom_at) (G_word_at : Fo P w K mg base ca 1 "word_at" f_word_at) {f : Addr} {fd : FuncData} (F : Fun K "power_at" "power_at" s_power_at f fd) : FnOk P w K mg base (L2.CX P w) (lr + 0 + 1) f fd ["words", "at"] (spP K ca (callF 2 4 (m_power_at r_atom_at))) :=
  fn_ok F sc_power_at fun cdv A outer s H E F0 R hr c => (s_cons (s_set (i := 2) sc_power_at.nd rfl (.inl rfl) (e_call c G_atom_at hr (by rfl) (a_cons (e_var (pv 0)) (a_cons (e_var (pv 1)) a_nil)) (hk := by omega)))
    (s_cons (s_if (t_cmpE (op_neD hr.units) sNe (e_call c G_word_at hr (by rfl) (a_cons (e_var (pv 0)) (a_cons (e_z (z_ix ix_seq sIx (z_var (pv 2)) z_int)) a_nil)) (hk := by omega)) (e_z z_str)) (s_one (s_ret (e_mv (pv 2)))) s_nil)
    (s_cons (s_set (i := 3) sc_power_at.nd rfl (.inl rfl) (e_call c G_word_at hr (by rfl) (a_cons (e_var (pv 0)) (a_cons (e_z (z_op op_add sAdd (z_ix ix_seq sIx (z_var (pv 2)) z_int) z_int)) a_nil)) (hk := by omega)))
    (s_cons (s_if (t_kdNotIn T.kd_POWERS (by rfl) (e_var (pv 3))) (s_one (s_raise c T.x_NoRow (by rfl))) s_nil)
    (s_one (s_ret (e_tup (a_cons (e_tup (a_cons (e_z z_str) (a_cons (e_z (z_ix ix_seq sIx (z_var (pv 2)) z_int)) (a_cons (e_kdIx T.kd_POWERS (by rfl) (e_var (pv 3))) a_nil)))) (a_cons (e_z (z_op op_add sAdd (z_ix ix_seq sIx (z_var (pv 2)) z_int) z_int)) a_nil)))))))))
theorem ok_product_at (T : Tx w K mg ca) {lr : Nat} (hlr : 3 ≤ lr) {r_power_at : List D → CR} (G_power_at : Fo P w K mg base ca lr "power_at" r_power_at) (G_word_at : Fo P w K mg base ca 1 "word_at" f_word_at) {f : Addr} {fd : FuncData} (F : Fun K "product_at" "product_at" s_product_at f fd) : FnOk P w K mg base (L2.CX P w) (lr + 0 + 1) f fd ["words", "at"] (spP K ca (callF 2 4 (m_product_at r_power_at))) :=
  fn_ok F sc_product_at fun cdv A outer s H E F0 R hr c => (s_cons (s_set (i := 2) sc_product_at.nd rfl (.inl rfl) (e_call c G_power_at hr (by rfl) (a_cons (e_var (pv 0)) (a_cons (e_var (pv 1)) a_nil)) (hk := by omega)))
    (s_cons (s_while c fuel_product_at1 (t_cmpE (op_eqD hr.units) sEq (e_call c G_word_at hr (by rfl) (a_cons (e_var (pv 0)) (a_cons (e_z (z_ix ix_seq sIx (z_var (pv 2)) z_int)) a_nil)) (hk := by omega)) (e_z z_str)) (s_cons (s_set (i := 3) sc_product_at.nd rfl (.inl rfl) (e_call c G_power_at hr (by rfl) (a_cons (e_var (pv 0)) (a_cons (e_z (z_op op_add sAdd (z_ix ix_seq sIx (z_var (pv 2)) z_int) z_int)) a_nil)) (hk := by omega)))
    (s_one (s_set (i := 2) sc_product_at.nd rfl (.inl rfl) (e_tup (a_cons (e_tup (a_cons (e_z z_str) (a_cons (e_z (z_ix ix_seq sIx (z_var (pv 2)) z_int)) (a_cons (e_z (z_ix ix_seq sIx (z_var (pv 3)) z_int)) a_nil)))) (a_cons (e_z (z_ix ix_seq sIx (z_var (pv 3)) z_int)) a_nil)))))))
    (s_one (s_ret (e_mv (pv 2))))))
theorem ok_sum_at (T : Tx w K mg ca) {lr : Nat} (hlr : 3 ≤ lr) {r_product_at : List D → CR} (G_product_at : Fo P w K mg base ca lr "product_at" r_product_at) (G_word_at : Fo P w K mg base ca 1 "word_at" f_word_at) {f : Addr} {fd : FuncData} (F : Fun K "sum_at" "sum_at" s_sum_at f fd) : FnOk P w K mg base (L2.CX P w) (lr + 0 + 1) f fd ["words", "at"] (spP K ca (callF 2 5 (m_sum_at r_product_at))) :=
  fn_ok F sc_sum_at fun cdv A outer s H E F0 R hr c => (s_cons (s_set (i := 2) sc_sum_at.nd rfl (.inl rfl) (e_call c G_product_at hr (by rfl) (a_cons (e_var (pv 0)) (a_cons (e_var (pv 1)) a_nil)) (hk := by omega)))
    (s_cons (s_while c fuel_sum_at1 (t_cmpE op_in_seq sIn (e_call c G_word_at hr (by rfl) (a_cons (e_var (pv 0)) (a_cons (e_z (z_ix ix_seq sIx (z_var (pv 2)) z_int)) a_nil)) (hk := by omega)) (e_tup (a_cons (e_z z_str) (a_cons (e_z z_str) a_nil)))) (s_cons (s_set (i := 3) sc_sum_at.nd rfl (.inl rfl) (e_z z_str))
    (s_cons (s_if (t_cmpZ (op_eqD hr.units) sEq (z_ix ix_seq sIx (z_var (pv 0)) (z_ix ix_seq sIx (z_var (pv 2)) z_int)) z_str) (s_one (s_set (i := 3) sc_sum_at.nd rfl (.inl rfl) (e_z z_str))) s_nil)
    (s_cons (s_set (i := 4) sc_sum_at.nd rfl (.inl rfl) (e_call c G_product_at hr (by rfl) (a_cons (e_var (pv 0)) (a_cons (e_z (z_op op_add sAdd (z_ix ix_seq sIx (z_var (pv 2)) z_int) z_int)) a_nil)) (hk := by omega)))
    (s_one (s_set (i := 2) sc_sum_at.nd rfl (.inl rfl) (e_tup (a_cons (e_tup (a_cons (e_var (pv 3)) (a_cons (e_z (z_ix ix_seq sIx (z_var (pv 2)) z_int)) (a_cons (e_z (z_ix ix_seq sIx (z_var (pv 4)) z_int)) a_nil)))) (a_cons (e_z (z_ix ix_seq sIx (z_var (pv 4)) z_int)) a_nil)))))))))
    (s_one (s_ret (e_mv (pv 2))))))
theorem ok_tree_of (T : Tx w K mg ca) (G_look_at_brackets : Fo P w K mg base ca 1 "look_at_brackets" f_look_at_brackets) (G_sum_at : Fo P w K mg base ca 71 "sum_at" f_sum_at) {f : Addr} {fd : FuncData} (F : Fun K "tree_of" "tree_of" s_tree_of f fd) : FnOk P w K mg base (L2.CX P w) 72 f fd ["words"] (spP K ca f_tree_of) :=
  fn_ok F sc_tree_of fun cdv A outer s H E F0 R hr c => (s_cons (s_if (t_cmpZ op_gt sGt (z_callB call_len sLen (by rfl) T.len_ (by decide +kernel) (za_cons (z_var (pv 0)) za_nil)) (z_k T.k_LONGEST (by rfl))) (s_one (s_raise c T.x_NoRow (by rfl))) s_nil)
    (s_cons (s_expr (e_call c G_look_at_brackets hr (by rfl) (a_cons (e_var (pv 0)) a_nil)))
    (s_cons (s_set (i := 1) sc_tree_of.nd rfl (.inl rfl) (e_call c G_sum_at hr (by rfl) (a_cons (e_var (pv 0)) (a_cons (e_z z_int) a_nil))))
    (s_cons (s_if (t_cmpZ (op_neD hr.units) sNe (z_ix ix_seq sIx (z_var (pv 1)) z_int) (z_callB call_len sLen (by rfl) T.len_ (by decide +kernel) (za_cons (z_var (pv 0)) za_nil))) (s_one (s_raise c T.x_NoRow (by rfl))) s_nil)
    (s_one (s_ret (e_z (z_ix ix_seq sIx (z_var (pv 1)) z_int))))))))
theorem ok__law_refused (T : Tx w K mg ca) (G_tree_of : Fo P w K mg base ca 72 "tree_of" f_tree_of) {f : Addr} {fd : FuncData} (F : Fun K "_law_refused" "_law_refused" s__law_refused f fd) : FnOk P w K mg base (L2.CX P w) 73 f fd ["_law_words"] (spP K ca f__law_refused) :=
  fn_ok F sc__law_refused fun cdv A outer s H E F0 R hr c => (s_cons (s_set (i := 1) sc__law_refused.nd rfl (.inl rfl) (e_z z_bl))
    (s_cons (s_tryAs (i := 2) c sc__law_refused.nd rfl rfl sub_BoxError ⟨by rfl, by decide, T.n_BoxError⟩ T.h_BoxError rfl rfl (fun _ _ _ c => (s_one (s_expr (e_call c G_tree_of hr (by rfl) (a_cons (e_var (pv 0)) a_nil))))) (fun _ _ y _ hz hv => (s_one (s_set (i := 1) sc__law_refused.nd rfl (.inl rfl) (e_isE hz hv (pv 2) (pe_glob (v := .ref (ca "NoRow")) (by rfl) T.x_NoRow.g rfl) (fun _ h => h) (fun t h => T.i_NoRow y t h) (by rfl) T.isinstance) (ioE (by decide))))))
    (s_one (s_ret (e_mv (pv 1))))))
theorem ok__law_whole (T : Tx w K mg ca)  {f : Addr} {fd : FuncData} (F : Fun K "_law_whole" "_law_whole" s__law_whole f fd) : FnOk P w K mg base (L2.CX P w) 1 f fd ["_law_found"] (spP K ca f__law_whole) :=
  fn_ok F sc__law_whole fun cdv A outer s H E F0 R hr c => (s_one (s_ret (e_and (e_z (z_callB call_isi sIsi (by rfl) T.isinstance (by decide +kernel) (za_cons (z_var (pv 0)) (za_cons (z_ty (by rfl) T.int_ (by decide +kernel)) za_nil)))) (e_one (e_not (e_z (z_callB call_isi sIsi (by rfl) T.isinstance (by decide +kernel) (za_cons (z_var (pv 0)) (za_cons (z_ty (by rfl) T.bool_ (by decide +kernel)) za_nil)))))))))
theorem ok__law_alike (T : Tx w K mg ca) {lr : Nat} (hlr : 1 ≤ lr) {r__law_alike : List D → CR} (G__law_alike : Fo P w K mg base ca lr "_law_alike" r__law_alike) (G__law_whole : Fo P w K mg base ca 1 "_law_whole" f__law_whole) {f : Addr} {fd : FuncData} (F : Fun K "_law_alike" "_law_alike" s__law_alike f fd) : FnOk P w K mg base (L2.CX P w) (lr + 0 + 1) f fd ["_law_found", "_law_due"] (spP K ca (callF 2 2 (m__law_alike r__law_alike))) :=
  fn_ok F sc__law_alike fun cdv A outer s H E F0 R hr c => (s_cons (s_if (PW.pt (t_or (t_not (t_valZ (z_callB call_isi sIsi (by rfl) T.isinstance (by decide +kernel) (za_cons (z_var (pv 0)) (za_cons (z_ty (by rfl) T.tuple_ (by decide +kernel)) za_nil))))) (t_or (t_cmpZ (op_neD hr.units) sNe (z_callB call_len sLen (by rfl) T.len_ (by decide +kernel) (za_cons (z_var (pv 0)) za_nil)) (z_callB call_len sLen (by rfl) T.len_ (by decide +kernel) (za_cons (z_var (pv 1)) za_nil))) (t_or1 (t_cmpZ (op_neD hr.units) sNe (z_ix ix_seq sIx (z_var (pv 0)) z_int) (z_ix ix_seq sIx (z_var (pv 1)) z_int)))))) (s_one (s_ret (e_z z_bl))) s_nil)
    (s_cons (s_if (t_cmpZ (op_eqD hr.units) sEq (z_ix ix_seq sIx (z_var (pv 1)) z_int) z_str) (s_one (s_ret (e_and (e_z (z_callB call_isi sIsi (by rfl) T.isinstance (by decide +kernel) (za_cons (z_ix ix_seq sIx (z_var (pv 0)) z_int) (za_cons (z_ty (by rfl) T.str_ (by decide +kernel)) za_nil)))) (e_one (e_z (z_cmp (op_eqD hr.units) sEq (z_ix ix_seq sIx (z_var (pv 0)) z_int) (z_ix ix_seq sIx (z_var (pv 1)) z_int))))))) s_nil)
    (s_cons (s_if (t_cmpZ (op_eqD hr.units) sEq (z_ix ix_seq sIx (z_var (pv 1)) z_int) z_str) (s_one (s_ret (e_and (e_call c G__law_whole hr (by rfl) (a_cons (e_z (z_ix ix_seq sIx (z_var (pv 0)) z_int)) a_nil) (hk := by omega)) (e_and (e_call c G__law_whole hr (by rfl) (a_cons (e_z (z_ix ix_seq sIx (z_var (pv 0)) z_int)) a_nil) (hk := by omega)) (e_one (e_z (z_cmp (op_eqD hr.units) sEq (z_var (pv 0)) (z_var (pv 1))))))))) s_nil)
    (s_cons (s_if (t_cmpZ (op_eqD hr.units) sEq (z_ix ix_seq sIx (z_var (pv 1)) z_int) z_str) (s_one (s_ret (e_and (e_call c G__law_whole hr (by rfl) (a_cons (e_z (z_ix ix_seq sIx (z_var (pv 0)) z_int)) a_nil) (hk := by omega)) (e_and (e_z (z_cmp (op_eqD hr.units) sEq (z_ix ix_seq sIx (z_var (pv 0)) z_int) (z_ix ix_seq sIx (z_var (pv 1)) z_int))) (e_one (e_call c G__law_alike hr (by rfl) (a_cons (e_z (z_ix ix_seq sIx (z_var (pv 0)) z_int)) (a_cons (e_z (z_ix ix_seq sIx (z_var (pv 1)) z_int)) a_nil)) (hk := by omega))))))) s_nil)
    (s_one (s_ret (e_and (e_call c G__law_alike hr (by rfl) (a_cons (e_z (z_ix ix_seq sIx (z_var (pv 0)) z_int)) (a_cons (e_z (z_ix ix_seq sIx (z_var (pv 1)) z_int)) a_nil)) (hk := by omega)) (e_one (e_call c G__law_alike hr (by rfl) (a_cons (e_z (z_ix ix_seq sIx (z_var (pv 0)) z_int)) (a_cons (e_z (z_ix ix_seq sIx (z_var (pv 1)) z_int)) a_nil)) (hk := by omega))))))))))
theorem ok__law_edges (T : Tx w K mg ca) (G__law_refused : Fo P w K mg base ca 73 "_law_refused" f__law_refused) (G__law_alike : Fo P w K mg base ca 71 "_law_alike" f__law_alike) (G_tree_of : Fo P w K mg base ca 72 "tree_of" f_tree_of) {f : Addr} {fd : FuncData} (F : Fun K "_law_edges" "_law_edges" s__law_edges f fd) : FnOk P w K mg base (L2.CX P w) 74 f fd ["_law_cell"] (spP K ca f__law_edges) :=
  fn_ok F sc__law_edges fun cdv A outer s H E F0 R hr c => (s_cons (s_set (i := 1) sc__law_edges.nd rfl (.inl rfl) (e_z (z_op op_add sAdd z_int (z_op op_mod sMod (z_var (pv 0)) z_int))))
    (s_cons (s_set (i := 2) sc__law_edges.nd rfl (.inl rfl) (e_cat (e_cat (e_rep (e_lst (a_cons (e_z z_str) a_nil)) (e_var (pv 1))) (e_lst (a_cons (e_z z_str) a_nil))) (e_rep (e_lst (a_cons (e_z z_str) a_nil)) (e_var (pv 1)))))
    (s_cons (s_if (t_cmpZ op_lt sLt (z_var (pv 1)) z_int) (s_one (s_if (t_not (t_valE (e_call c G__law_alike hr (by rfl) (a_cons (e_call c G_tree_of hr (by rfl) (a_cons (e_var (pv 2)) a_nil)) (a_cons (e_tup (a_cons (e_z z_str) (a_cons (e_z z_str) a_nil))) a_nil))))) (s_one (s_ret (e_z z_bl))) s_nil)) (s_one (s_if (t_not (t_valE (e_call c G__law_refused hr (by rfl) (a_cons (e_var (pv 2)) a_nil)))) (s_one (s_ret (e_z z_bl))) s_nil)))
    (s_cons (s_set (i := 3) sc__law_edges.nd rfl (.inl rfl) (e_z (z_op op_add sAdd z_int (z_op op_mod sMod (z_op op_fdivW sDiv (z_var (pv 0)) z_int) z_int))))
    (s_cons (s_set (i := 4) sc__law_edges.nd rfl (.inl rfl) (e_tup (a_cons (e_z z_str) (a_cons (e_z z_str) a_nil))))
    (s_cons (s_for c (i_range1 (by rfl) T.range (a_cons (e_z (z_op op_sub sSub (z_var (pv 3)) z_int)) a_nil)) (g_name (i := 5) sc__law_edges.nd rfl (.inl rfl)) (s_one (s_set (i := 4) sc__law_edges.nd rfl (.inl rfl) (e_tup (a_cons (e_z z_str) (a_cons (e_var (pv 4)) (a_cons (e_tup (a_cons (e_z z_str) (a_cons (e_z z_str) a_nil))) a_nil)))))))
    (s_cons (s_set (i := 2) sc__law_edges.nd rfl (.inl rfl) (e_cat (e_lst (a_cons (e_z z_str) a_nil)) (e_rep (e_lst (a_cons (e_z z_str) (a_cons (e_z z_str) a_nil))) (e_z (z_op op_sub sSub (z_var (pv 3)) z_int)))))
    (s_cons (s_if (t_cmpZ op_lt sLt (z_var (pv 3)) z_int) (s_one (s_ret (e_call c G__law_alike hr (by rfl) (a_cons (e_call c G_tree_of hr (by rfl) (a_cons (e_var (pv 2)) a_nil)) (a_cons (e_var (pv 4)) a_nil))))) s_nil)
    (s_one (s_ret (e_call c G__law_refused hr (by rfl) (a_cons (e_var (pv 2)) a_nil))))))))))))
theorem ok__law_atom (T : Tx w K mg ca)  {f : Addr} {fd : FuncData} (F : Fun K "_law_atom" "_law_atom" s__law_atom f fd) : FnOk P w K mg base (L2.CX P w) 1 f fd ["_law_cell"] (spP K ca f__law_atom) :=
  fn_ok F sc__law_atom fun cdv A outer s H E F0 R hr c => (s_cons (s_if (t_cmpZ (op_eqD hr.units) sEq (z_op op_mod sMod (z_var (pv 0)) z_int) z_int) (s_cons (s_set (i := 1) sc__law_atom.nd rfl (.inl rfl) (e_z (z_op op_sub sSub (z_op op_mod sMod (z_op op_fdivW sDiv (z_var (pv 0)) z_int) (z_op op_sub sSub (z_op op_mulA sMulA z_int (z_op op_pow sPow z_int z_int)) z_int)) (z_op op_sub sSub (z_op op_pow sPow z_int z_int) z_int))))
    (s_one (s_ret (e_tup (a_cons (e_tup (a_cons (e_z z_str) (a_cons (e_var (pv 1)) (a_cons (e_z z_int) a_nil)))) (a_cons (e_lst (a_cons (e_callTy call_str_int sStrI (by rfl) T.str_ (by decide +kernel) (a_cons (e_var (pv 1)) a_nil)) a_nil)) (a_cons (e_z z_int) (a_cons (e_z z_int) a_nil)))))))) s_nil)
    (s_cons (s_if (t_cmpZ (op_eqD hr.units) sEq (z_op op_mod sMod (z_var (pv 0)) z_int) z_int) (s_cons (s_set (i := 2) sc__law_atom.nd rfl (.inl rfl) (e_z (z_op op_add sAdd z_int (z_op op_mod sMod (z_op op_fdivW sDiv (z_var (pv 0)) z_int) z_int))))
    (s_cons (s_set (i := 1) sc__law_atom.nd rfl (.inl rfl) (e_z (z_op op_add sAdd (z_op op_mulA sMulA (z_var (pv 2)) (z_op op_sub sSub (z_op op_mod sMod (z_op op_fdivW sDiv (z_var (pv 0)) z_int) z_int) z_int)) z_int)))
    (s_one (s_ret (e_tup (a_cons (e_tup (a_cons (e_z z_str) (a_cons (e_var (pv 1)) (a_cons (e_var (pv 2)) a_nil)))) (a_cons (e_lst (a_cons (e_op op_add_str sAddS (e_op op_add_str sAddS (e_callTy call_str_int sStrI (by rfl) T.str_ (by decide +kernel) (a_cons (e_var (pv 1)) a_nil)) (e_z z_str)) (e_callTy call_str_int sStrI (by rfl) T.str_ (by decide +kernel) (a_cons (e_var (pv 2)) a_nil))) a_nil)) (a_cons (e_z z_int) (a_cons (e_z z_int) a_nil))))))))) s_nil)
    (s_cons (s_set (i := 3) sc__law_atom.nd rfl (.inr rfl) (e_z z_str))
    (s_cons (s_set (i := 4) sc__law_atom.nd rfl (.inl rfl) (e_join (e_z z_str) (e_lc (own := [("_law_k", 5)]) c sc__law_atom.nd (i_range1 (by rfl) T.range (a_cons (e_z (z_op op_add sAdd z_int (z_op op_mod sMod (z_op op_fdivW sDiv (z_var (pv 0)) z_int) z_int))) a_nil)) (blkOk_by (own := [("_law_k", 5)]) (N := ["_law_cell", "_law_top", "_law_bottom", "_law_letters", "_law_name", "_law_k"]) (sc := defScope s__law_atom) (by decide +kernel)) (fun _ _ _ _ _ => (g_name (i := 5) sc__law_atom.nd rfl (.inl rfl))) (fun _ _ _ _ _ => ts_nil) (fun _ _ _ _ _ c => (e_z (z_ix ix_seq sIx (z_var (pv 3)) (z_op op_mod sMod (z_op op_add sAdd (z_op op_fdivW sDiv (z_var (pv 0)) z_int) (z_op op_mulA sMulA (z_op op_mod sMod (z_op op_fdivW sDiv (z_var (pv 0)) z_int) z_int) (z_var (pv 5)))) z_int)))))))
    (s_one (s_ret (e_tup (a_cons (e_tup (a_cons (e_z z_str) (a_cons (e_var (pv 4)) a_nil))) (a_cons (e_lst (a_cons (e_var (pv 4)) a_nil)) (a_cons (e_z z_int) (a_cons (e_z z_int) a_nil)))))))))))
theorem ok__law_shut (T : Tx w K mg ca)  {f : Addr} {fd : FuncData} (F : Fun K "_law_shut" "_law_shut" s__law_shut f fd) : FnOk P w K mg base (L2.CX P w) 1 f fd ["_law_piece"] (spP K ca f__law_shut) :=
  fn_ok F sc__law_shut fun cdv A outer s H E F0 R hr c => (s_one (s_ret (e_tup (a_cons (e_z (z_ix ix_seq sIx (z_var (pv 0)) z_int)) (a_cons (e_cat (e_cat (e_lst (a_cons (e_z z_str) a_nil)) (e_z (z_ix ix_seq sIx (z_var (pv 0)) z_int))) (e_lst (a_cons (e_z z_str) a_nil))) (a_cons (e_z z_int) (a_cons (e_z (z_op op_add sAdd (z_ix ix_seq sIx (z_var (pv 0)) z_int) z_int)) a_nil)))))))
theorem ok__law_fits (T : Tx w K mg ca)  {f : Addr} {fd : FuncData} (F : Fun K "_law_fits" "_law_fits" s__law_fits f fd) : FnOk P w K mg base (L2.CX P w) 1 f fd ["_law_piece"] (spP K ca f__law_fits) :=
  fn_ok F sc__law_fits fun cdv A outer s H E F0 R hr c => (s_one (s_ret (e_and (e_z (z_cmp op_lt sLt (z_callB call_len sLen (by rfl) T.len_ (by decide +kernel) (za_cons (z_ix ix_seq sIx (z_var (pv 0)) z_int) za_nil)) z_int)) (e_one (e_z (z_cmp op_lt sLt (z_ix ix_seq sIx (z_var (pv 0)) z_int) z_int))))))
theorem ok__law_at_least (T : Tx w K mg ca) (G__law_shut : Fo P w K mg base ca 1 "_law_shut" f__law_shut) {f : Addr} {fd : FuncData} (F : Fun K "_law_at_least" "_law_at_least" s__law_at_least f fd) : FnOk P w K mg base (L2.CX P w) 2 f fd ["_law_piece", "_law_level"] (spP K ca f__law_at_least) :=
  fn_ok F sc__law_at_least fun cdv A outer s H E F0 R hr c => (s_cons (s_if (t_cmpZ op_lt sLt (z_ix ix_seq sIx (z_var (pv 0)) z_int) (z_var (pv 1))) (s_one (s_ret (e_call c G__law_shut hr (by rfl) (a_cons (e_var (pv 0)) a_nil)))) s_nil)
    (s_one (s_ret (e_mv (pv 0)))))
theorem ok__law_raised (T : Tx w K mg ca) (G__law_at_least : Fo P w K mg base ca 2 "_law_at_least" f__law_at_least) {f : Addr} {fd : FuncData} (F : Fun K "_law_raised" "_law_raised" s__law_raised f fd) : FnOk P w K mg base (L2.CX P w) 3 f fd ["_law_piece", "_law_many"] (spP K ca f__law_raised) :=
  fn_ok F sc__law_raised fun cdv A outer s H E F0 R hr c => (s_cons (s_set (i := 0) sc__law_raised.nd rfl (.inl rfl) (e_call c G__law_at_least hr (by rfl) (a_cons (e_var (pv 0)) (a_cons (e_z z_int) a_nil))))
    (s_one (s_ret (e_tup (a_cons (e_tup (a_cons (e_z z_str) (a_cons (e_z (z_ix ix_seq sIx (z_var (pv 0)) z_int)) (a_cons (e_var (pv 1)) a_nil)))) (a_cons (e_cat (e_z (z_ix ix_seq sIx (z_var (pv 0)) z_int)) (e_lst (a_cons (e_z z_str) (a_cons (e_callTy call_str_int sStrI (by rfl) T.str_ (by decide +kernel) (a_cons (e_var (pv 1)) a_nil)) a_nil)))) (a_cons (e_z z_int) (a_cons (e_z (z_ix ix_seq sIx (z_var (pv 0)) z_int)) a_nil))))))))
theorem ok__law_joined (T : Tx w K mg ca) (G__law_at_least : Fo P w K mg base ca 2 "_law_at_least" f__law_at_least) {f : Addr} {fd : FuncData} (F : Fun K "_law_joined" "_law_joined" s__law_joined f fd) : FnOk P w K mg base (L2.CX P w) 3 f fd ["_law_way", "_law_one", "_law_other"] (spP K ca f__law_joined) :=
  fn_ok F sc__law_joined fun cdv A outer s H E F0 R hr c => (s_cons (s_set (i := 3) sc__law_joined.nd rfl (.inl rfl) (e_callTy call_int1 sInt (by rfl) T.int_ (by decide +kernel) (a_cons (e_z (z_cmp (op_eqD hr.units) sEq (z_var (pv 0)) z_int)) a_nil)))
    (s_cons (s_set (i := 1) sc__law_joined.nd rfl (.inl rfl) (e_call c G__law_at_least hr (by rfl) (a_cons (e_var (pv 1)) (a_cons (e_var (pv 3)) a_nil))))
    (s_cons (s_set (i := 2) sc__law_joined.nd rfl (.inl rfl) (e_call c G__law_at_least hr (by rfl) (a_cons (e_var (pv 2)) (a_cons (e_z (z_op op_add sAdd (z_var (pv 3)) z_int)) a_nil))))
    (s_cons (s_set (i := 4) sc__law_joined.nd rfl (.inl rfl) (e_ix ix_seq sIx (e_lst (a_cons (e_z z_str) (a_cons (e_z z_str) (a_cons (e_z z_str) a_nil)))) (e_var (pv 0))))
    (s_cons (s_set (i := 5) sc__law_joined.nd rfl (.inl rfl) (e_tup (a_cons (e_ix ix_seq sIx (e_lst (a_cons (e_z z_str) (a_cons (e_z z_str) (a_cons (e_z z_str) a_nil)))) (e_var (pv 0))) (a_cons (e_z (z_ix ix_seq sIx (z_var (pv 1)) z_int)) (a_cons (e_z (z_ix ix_seq sIx (z_var (pv 2)) z_int)) a_nil)))))
    (s_one (s_ret (e_tup (a_cons (e_var (pv 5)) (a_cons (e_cat (e_cat (e_z (z_ix ix_seq sIx (z_var (pv 1)) z_int)) (e_lst (a_cons (e_var (pv 4)) a_nil))) (e_z (z_ix ix_seq sIx (z_var (pv 2)) z_int))) (a_cons (e_var (pv 3)) (a_cons (e_z (z_callB (call_max2 c.calm) sMax2 (by rfl) T.max_ (by decide +kernel) (za_cons (z_ix ix_seq sIx (z_var (pv 1)) z_int) (za_cons (z_ix ix_seq sIx (z_var (pv 2)) z_int) za_nil)))) a_nil))))))))))))
theorem ok__law_grown (T : Tx w K mg ca) (G__law_shut : Fo P w K mg base ca 1 "_law_shut" f__law_shut) (G__law_fits : Fo P w K mg base ca 1 "_law_fits" f__law_fits) (G__law_raised : Fo P w K mg base ca 3 "_law_raised" f__law_raised) (G__law_atom : Fo P w K mg base ca 1 "_law_atom" f__law_atom) (G__law_joined : Fo P w K mg base ca 3 "_law_joined" f__law_joined) {f : Addr} {fd : FuncData} (F : Fun K "_law_grown" "_law_grown" s__law_grown f fd) : FnOk P w K mg base (L2.CX P w) 4 f fd ["_law_pieces", "_law_cell"] (spP K ca f__law_grown) :=
  fn_ok F sc__law_grown fun cdv A outer s H E F0 R hr c => (s_cons (s_if (t_cmpZ op_lt sLt (z_op op_mod sMod (z_var (pv 1)) z_int) z_int) (s_one (s_ret (e_cat (e_var (pv 0)) (e_lst (a_cons (e_call c G__law_atom hr (by rfl) (a_cons (e_z (z_op op_fdivW sDiv (z_var (pv 1)) z_int)) a_nil)) a_nil))))) s_nil)
    (s_cons (s_if (t_cmpZ (op_eqD hr.units) sEq (z_op op_mod sMod (z_var (pv 1)) z_int) z_int) (s_one (s_set (i := 2) sc__law_grown.nd rfl (.inl rfl) (e_call c G__law_shut hr (by rfl) (a_cons (e_z (z_ix ix_seq sIx (z_var (pv 0)) (z_un un_neg sNeg z_int))) a_nil)))) (s_one (s_if (t_cmpZ (op_eqD hr.units) sEq (z_op op_mod sMod (z_var (pv 1)) z_int) z_int) (s_one (s_set (i := 2) sc__law_grown.nd rfl (.inl rfl) (e_call c G__law_raised hr (by rfl) (a_cons (e_z (z_ix ix_seq sIx (z_var (pv 0)) (z_un un_neg sNeg z_int))) (a_cons (e_z (z_op op_add sAdd z_int (z_op op_mod sMod (z_op op_fdivW sDiv (z_var (pv 1)) z_int) z_int))) a_nil))))) (s_one (s_if (t_cmpZ op_lt sLt (z_callB call_len sLen (by rfl) T.len_ (by decide +kernel) (za_cons (z_var (pv 0)) za_nil)) z_int) (s_one (s_ret (e_cat (e_var (pv 0)) (e_lst (a_cons (e_call c G__law_atom hr (by rfl) (a_cons (e_z (z_op op_fdivW sDiv (z_var (pv 1)) z_int)) a_nil)) a_nil))))) (s_cons (s_set (i := 2) sc__law_grown.nd rfl (.inl rfl) (e_call c G__law_joined hr (by rfl) (a_cons (e_z (z_op op_sub sSub (z_op op_mod sMod (z_var (pv 1)) z_int) z_int)) (a_cons (e_z (z_ix ix_seq sIx (z_var (pv 0)) (z_un un_neg sNeg z_int))) (a_cons (e_z (z_ix ix_seq sIx (z_var (pv 0)) (z_un un_neg sNeg z_int))) a_nil)))))
    (s_one (s_set (i := 0) sc__law_grown.nd rfl (.inl rfl) (e_sliceL (e_var (pv 0)) pe_none (pe_some (e_z (z_un un_neg sNeg z_int))))))))))))
    (s_cons (s_if (t_not (t_valE (e_call c G__law_fits hr (by rfl) (a_cons (e_var (pv 2)) a_nil)))) (s_one (s_ret (e_mv (pv 0)))) s_nil)
    (s_one (s_ret (e_cat (e_sliceL (e_var (pv 0)) pe_none (pe_some (e_z (z_un un_neg sNeg z_int)))) (e_lst (a_cons (e_var (pv 2)) a_nil))))))))
theorem ok__law_cell_at (T : Tx w K mg ca)  {f : Addr} {fd : FuncData} (F : Fun K "_law_cell_at" "_law_cell_at" s__law_cell_at f fd) : FnOk P w K mg base (L2.CX P w) 1 f fd ["_law_script", "_law_k"] (spP K ca f__law_cell_at) :=
  fn_ok F sc__law_cell_at fun cdv A outer s H E F0 R hr c => (s_cons (s_if (t_cmpZ op_lt sLt (z_var (pv 1)) (z_callB call_len sLen (by rfl) T.len_ (by decide +kernel) (za_cons (z_var (pv 0)) za_nil))) (s_one (s_ret (e_z (z_ix ix_seq sIx (z_var (pv 0)) (z_var (pv 1)))))) s_nil)
    (s_one (s_ret (e_z z_int))))
theorem ok__law_no_atom (T : Tx w K mg ca)  {f : Addr} {fd : FuncData} (F : Fun K "_law_no_atom" "_law_no_atom" s__law_no_atom f fd) : FnOk P w K mg base (L2.CX P w) 1 f fd ["_law_cell"] (spP K ca f__law_no_atom) :=
  fn_ok F sc__law_no_atom fun cdv A outer s H E F0 R hr c => (s_cons (s_set (i := 1) sc__law_no_atom.nd rfl (.inl rfl) (e_lst (a_cons (e_z z_str) (a_cons (e_z z_str) (a_cons (e_z z_str) (a_cons (e_z z_str) (a_cons (e_z z_str) (a_cons (e_z z_str) (a_cons (e_z z_str) (a_cons (e_z z_str) (a_cons (e_z z_str) (a_cons (e_z z_str) (a_cons (e_z z_str) a_nil)))))))))))))
    (s_cons (s_set (i := 1) sc__law_no_atom.nd rfl (.inl rfl) (e_cat (e_var (pv 1)) (e_lst (a_cons (e_z z_str) (a_cons (e_z z_str) (a_cons (e_z z_str) (a_cons (e_z z_str) (a_cons (e_z z_str) a_nil))))))))
    (s_one (s_ret (e_z (z_ix ix_seq sIx (z_var (pv 1)) (z_op op_mod sMod (z_var (pv 0)) z_int)))))))
theorem ok_law (T : Tx w K mg ca) (G__law_edges : Fo P w K mg base ca 74 "_law_edges" f__law_edges) (G__law_atom : Fo P w K mg base ca 1 "_law_atom" f__law_atom) (G__law_grown : Fo P w K mg base ca 4 "_law_grown" f__law_grown) (G__law_joined : Fo P w K mg base ca 3 "_law_joined" f__law_joined) (G__law_fits : Fo P w K mg base ca 1 "_law_fits" f__law_fits) (G__law_cell_at : Fo P w K mg base ca 1 "_law_cell_at" f__law_cell_at) (G__law_refused : Fo P w K mg base ca 73 "_law_refused" f__law_refused) (G__law_alike : Fo P w K mg base ca 71 "_law_alike" f__law_alike) (G_tree_of : Fo P w K mg base ca 72 "tree_of" f_tree_of) (G__law_no_atom : Fo P w K mg base ca 1 "_law_no_atom" f__law_no_atom) {f : Addr} {fd : FuncData} (F : Fun K "law" "law" s_law f fd) : FnOk P w K mg base (L2.CX P w) 75 f fd ["_law_script"] (spP K ca f_law) :=
  fn_ok F sc_law fun cdv A outer s H E F0 R hr c => (s_cons (s_set (i := 1) sc_law.nd rfl (.inl rfl) (e_lst (a_cons (e_call c G__law_atom hr (by rfl) (a_cons (e_op op_mod sMod (e_call c G__law_cell_at hr (by rfl) (a_cons (e_var (pv 0)) (a_cons (e_z z_int) a_nil))) (e_z (z_op op_pow sPow z_int z_int))) a_nil)) a_nil)))
    (s_cons (s_for c (i_list (e_sliceL (e_var (pv 0)) (pe_some (e_z z_int)) (pe_some (e_z z_int)))) (g_name (i := 2) sc_law.nd rfl (.inl rfl)) (s_one (s_set (i := 1) sc_law.nd rfl (.inl rfl) (e_call c G__law_grown hr (by rfl) (a_cons (e_var (pv 1)) (a_cons (e_z (z_op op_mod sMod (z_var (pv 2)) (z_op op_pow sPow z_int z_int))) a_nil))))))
    (s_cons (s_set (i := 3) sc_law.nd rfl (.inl rfl) (e_z (z_ix ix_seq sIx (z_var (pv 1)) z_int)))
    (s_cons (s_for c (i_list (e_sliceL (e_var (pv 1)) (pe_some (e_z z_int)) pe_none)) (g_name (i := 4) sc_law.nd rfl (.inl rfl)) (s_cons (s_set (i := 5) sc_law.nd rfl (.inl rfl) (e_call c G__law_joined hr (by rfl) (a_cons (e_z z_int) (a_cons (e_var (pv 3)) (a_cons (e_var (pv 4)) a_nil)))))
    (s_one (s_if (t_valE (e_call c G__law_fits hr (by rfl) (a_cons (e_var (pv 5)) a_nil))) (s_one (s_set (i := 3) sc_law.nd rfl (.inl rfl) (e_var (pv 5)))) s_nil))))
    (s_cons (s_set (i := 6) sc_law.nd rfl (.inr rfl) (e_z (z_ix ix_seq sIx (z_var (pv 3)) z_int)))
    (s_cons (s_set (i := 7) sc_law.nd rfl (.inl rfl) (e_lstOf (by rfl) T.list_ (by decide +kernel) (a_cons (e_var (pv 6)) a_nil)))
    (s_cons (s_if (PW.pt (t_or (t_not (t_valE (e_call c G__law_alike hr (by rfl) (a_cons (e_call c G_tree_of hr (by rfl) (a_cons (e_var (pv 7)) a_nil)) (a_cons (e_z (z_ix ix_seq sIx (z_var (pv 3)) z_int)) a_nil))))) (t_or1 (t_cmpZ (op_neD hr.units) sNe (z_var (pv 7)) (z_var (pv 6)))))) (s_one (s_ret (e_z z_bl))) s_nil)
    (s_cons (s_set (i := 8) sc_law.nd rfl (.inl rfl) (e_op op_mod sMod (e_call c G__law_cell_at hr (by rfl) (a_cons (e_var (pv 0)) (a_cons (e_z z_int) a_nil))) (e_z (z_callB call_len sLen (by rfl) T.len_ (by decide +kernel) (za_cons (z_var (pv 6)) za_nil)))))
    (s_cons (s_if (PW.pt (t_or (t_not (t_valE (e_call c G__law_refused hr (by rfl) (a_cons (e_cat (e_sliceL (e_var (pv 6)) pe_none (pe_some (e_var (pv 8)))) (e_sliceL (e_var (pv 6)) (pe_some (e_z (z_op op_add sAdd (z_var (pv 8)) z_int))) pe_none)) a_nil)))) (t_or1 (t_not (t_valE (e_call c G__law_refused hr (by rfl) (a_cons (e_cat (e_cat (e_sliceL (e_var (pv 6)) pe_none (pe_some (e_var (pv 8)))) (e_sliceL (e_var (pv 6)) (pe_some (e_var (pv 8))) (pe_some (e_z (z_op op_add sAdd (z_var (pv 8)) z_int))))) (e_sliceL (e_var (pv 6)) (pe_some (e_var (pv 8))) pe_none)) a_nil))))))) (s_one (s_ret (e_z z_bl))) s_nil)
    (s_cons (s_if (t_cmpZ op_lt sLt (z_callB call_len sLen (by rfl) T.len_ (by decide +kernel) (za_cons (z_var (pv 6)) za_nil)) z_int) (s_cons (s_set (i := 9) sc_law.nd rfl (.inl rfl) (e_ix ix_seq sIx (e_lst (a_cons (e_z z_str) (a_cons (e_z z_str) (a_cons (e_z z_str) (a_cons (e_z z_str) (a_cons (e_z z_str) (a_cons (e_z z_str) (a_cons (e_z z_str) (a_cons (e_z z_str) (a_cons (e_z z_str) (a_cons (e_z z_str) a_nil))))))))))) (e_op op_mod sMod (e_call c G__law_cell_at hr (by rfl) (a_cons (e_var (pv 0)) (a_cons (e_z z_int) a_nil))) (e_z z_int))))
    (s_one (s_if (t_not (t_valE (e_call c G__law_refused hr (by rfl) (a_cons (e_cat (e_var (pv 6)) (e_lst (a_cons (e_z z_str) (a_cons (e_var (pv 9)) a_nil)))) a_nil)))) (s_one (s_ret (e_z z_bl))) s_nil))) s_nil)
    (s_cons (s_set (i := 10) sc_law.nd rfl (.inr rfl) (e_tup (a_cons (e_z z_str) (a_cons (e_z z_str) (a_cons (e_z z_str) (a_cons (e_z z_str) (a_cons (e_z z_str) (a_cons (e_z z_str) a_nil))))))))
    (s_cons (s_setLc (i := 11) (own := [("_law_k", 12)]) c sc_law.nd rfl rfl (sw_true rfl rfl rfl (by decide +kernel)) (i_range1 (by rfl) T.range (a_cons (e_z (z_callB call_len sLen (by rfl) T.len_ (by decide +kernel) (za_cons (z_var (pv 6)) za_nil))) a_nil)) (blkOk_by (own := [("_law_k", 12)]) (N := ["_law_script", "_law_pieces", "_law_cell", "_law_piece", "_law_other", "_law_grown_here", "_law_words", "_law_handed", "_law_at", "_law_many", "_law_signs", "_law_atoms", "_law_k"]) (sc := defScope s_law) (by decide +kernel)) (fun _ _ _ _ _ => (g_name (i := 12) sc_law.nd rfl (.inl rfl))) (fun _ _ _ _ _ => (ts_one (PW.pt (t_and (t_cmpZ op_notIn_seq sIn (z_ix ix_seq sIx (z_var (pv 6)) (z_var (pv 12))) (z_var (pv 10))) (t_and1 (PW.pt (t_or (t_cmpZ (op_eqD hr.units) sEq (z_var (pv 12)) z_int) (t_or1 (t_cmpZ (op_neD hr.units) sNe (z_ix ix_seq sIx (z_var (pv 6)) (z_op op_sub sSub (z_var (pv 12)) z_int)) z_str))))))))) (fun _ _ _ _ _ c => (e_var (pv 12))))
    (s_cons (s_set (i := 8) sc_law.nd rfl (.inl rfl) (e_ix ix_seq sIx (e_var (pv 11)) (e_op op_mod sMod (e_op op_fdivW sDiv (e_call c G__law_cell_at hr (by rfl) (a_cons (e_var (pv 0)) (a_cons (e_z z_int) a_nil))) (e_z z_int)) (e_z (z_callB call_len sLen (by rfl) T.len_ (by decide +kernel) (za_cons (z_var (pv 11)) za_nil))))))
    (s_cons (s_if (t_not (t_valE (e_call c G__law_refused hr (by rfl) (a_cons (e_cat (e_cat (e_sliceL (e_var (pv 6)) pe_none (pe_some (e_var (pv 8)))) (e_lst (a_cons (e_call c G__law_no_atom hr (by rfl) (a_cons (e_op op_fdivW sDiv (e_call c G__law_cell_at hr (by rfl) (a_cons (e_var (pv 0)) (a_cons (e_z z_int) a_nil))) (e_z z_int)) a_nil)) a_nil))) (e_sliceL (e_var (pv 6)) (pe_some (e_z (z_op op_add sAdd (z_var (pv 8)) z_int))) pe_none)) a_nil)))) (s_one (s_ret (e_z z_bl))) s_nil)
    (s_one (s_ret (e_call c G__law_edges hr (by rfl) (a_cons (e_op op_fdivW sDiv (e_call c G__law_cell_at hr (by rfl) (a_cons (e_var (pv 0)) (a_cons (e_z z_int) a_nil))) (e_z z_int)) a_nil))))))))))))))))))
theorem repL_ints {K : PySem.W.Frag} {ca : Str → Addr} {F : Hp} : ∀ ns : List Int, RepL K ca F (ns.map D.int) (ns.map V.int)
  | [] => rfl
  | i :: r => ⟨.int i, r.map V.int, rfl, rfl, repL_ints r⟩
theorem cx_none {P : Program} {w : World} {H : Hp} {s : Shared} {e : Value} {s' : Shared} (h : L2.CX P w [] H s (fun _ _ _ => False) e s') : False := by
  obtain ⟨_, _, _, _, _, _, _, _, _, _, _, _, z⟩ := h
  exact z
def spL (K : PySem.W.Frag) : Sp := fun vs H Q _ => ∃ (a : Addr) (ns : List Int), vs = [.ref a] ∧ ns.length ≤ 63 ∧ SqL K H a (ns.map V.int) ∧ ∀ H', Q (.bl true) H'
theorem sp_law {K : PySem.W.Frag} {ca : Str → Addr} (hl : ∀ ns : List Int, ns.length ≤ 63 → f_law [.cst (ns.map D.int)] = .ok (.bl true)) (vs : List V) (H : Hp) (Q : VK) (E : XK) (h : spL K vs H Q E) : spP K ca f_law vs H Q E := by
  obtain ⟨a, ns, rfl, hn, hS, q⟩ := h
  refine ⟨H, [.cst (ns.map D.int)], Same.refl _, ⟨.ref a, [], rfl, ⟨a, _, rfl, hS, repL_ints ns⟩, rfl⟩, ?_⟩
  rw [hl ns hn]
  intro v F' H' f _ _ _ hv _ _ _
  cases (show v = .bl true from hv.1)
  exact q H'
--ALLMK
set_option maxHeartbeats 0 in
theorem all_mk {l : PySem.W.OpenLaw} {w : World} {K : PySem.W.Frag} {h : Heap} {mg : Str → Option Value} {fa f0 f1 f2 f3 f4 f5 f6 f7 f8 f9 f10 f11 f12 f13 f14 f15 f16 f17 f18 f19 f20 f21 f22 f23 f24 f25 : Addr} (X : K.In h) (G : h.Ns mainGlobals mg) (hfa : mg "law" = some (.ref fa))
    {od0 an0 : Option Addr} {sl0 : Array (Option Value)} {oc0 kV0 dc0 pm0 cd0 ct0 : Value} (a0 : PySem.W.nsIn K mainGlobals "look_at_brackets" = some (some (.ref f0))) (l0 : K.lookup f0 = some ⟨oc0, od0, .func (PySem.W.fnOf "look_at_brackets" "look_at_brackets" (defArgs s_look_at_brackets) (defBody s_look_at_brackets) (defScope s_look_at_brackets) .none kV0 dc0 pm0 an0 cd0 ct0), sl0⟩) (c0 : PySem.W.codeIn K cd0 "look_at_brackets" = true) (k0 : PySem.W.keepIn K (.ref f0) = true)
    {od1 an1 : Option Addr} {sl1 : Array (Option Value)} {oc1 kV1 dc1 pm1 cd1 ct1 : Value} (a1 : PySem.W.nsIn K mainGlobals "word_at" = some (some (.ref f1))) (l1 : K.lookup f1 = some ⟨oc1, od1, .func (PySem.W.fnOf "word_at" "word_at" (defArgs s_word_at) (defBody s_word_at) (defScope s_word_at) .none kV1 dc1 pm1 an1 cd1 ct1), sl1⟩) (c1 : PySem.W.codeIn K cd1 "word_at" = true) (k1 : PySem.W.keepIn K (.ref f1) = true)
    {od2 an2 : Option Addr} {sl2 : Array (Option Value)} {oc2 kV2 dc2 pm2 cd2 ct2 : Value} (a2 : PySem.W.nsIn K mainGlobals "is_name" = some (some (.ref f2))) (l2 : K.lookup f2 = some ⟨oc2, od2, .func (PySem.W.fnOf "is_name" "is_name" (defArgs s_is_name) (defBody s_is_name) (defScope s_is_name) .none kV2 dc2 pm2 an2 cd2 ct2), sl2⟩) (c2 : PySem.W.codeIn K cd2 "is_name" = true) (k2 : PySem.W.keepIn K (.ref f2) = true)
    {od3 an3 : Option Addr} {sl3 : Array (Option Value)} {oc3 kV3 dc3 pm3 cd3 ct3 : Value} (a3 : PySem.W.nsIn K mainGlobals "whole_of" = some (some (.ref f3))) (l3 : K.lookup f3 = some ⟨oc3, od3, .func (PySem.W.fnOf "whole_of" "whole_of" (defArgs s_whole_of) (defBody s_whole_of) (defScope s_whole_of) .none kV3 dc3 pm3 an3 cd3 ct3), sl3⟩) (c3 : PySem.W.codeIn K cd3 "whole_of" = true) (k3 : PySem.W.keepIn K (.ref f3) = true)
    {od4 an4 : Option Addr} {sl4 : Array (Option Value)} {oc4 kV4 dc4 pm4 cd4 ct4 : Value} (a4 : PySem.W.nsIn K mainGlobals "divisor" = some (some (.ref f4))) (l4 : K.lookup f4 = some ⟨oc4, od4, .func (PySem.W.fnOf "divisor" "divisor" (defArgs s_divisor) (defBody s_divisor) (defScope s_divisor) .none kV4 dc4 pm4 an4 cd4 ct4), sl4⟩) (c4 : PySem.W.codeIn K cd4 "divisor" = true) (k4 : PySem.W.keepIn K (.ref f4) = true)
    {od5 an5 : Option Addr} {sl5 : Array (Option Value)} {oc5 kV5 dc5 pm5 cd5 ct5 : Value} (a5 : PySem.W.nsIn K mainGlobals "fraction" = some (some (.ref f5))) (l5 : K.lookup f5 = some ⟨oc5, od5, .func (PySem.W.fnOf "fraction" "fraction" (defArgs s_fraction) (defBody s_fraction) (defScope s_fraction) .none kV5 dc5 pm5 an5 cd5 ct5), sl5⟩) (c5 : PySem.W.codeIn K cd5 "fraction" = true) (k5 : PySem.W.keepIn K (.ref f5) = true)
    {od6 an6 : Option Addr} {sl6 : Array (Option Value)} {oc6 kV6 dc6 pm6 cd6 ct6 : Value} (a6 : PySem.W.nsIn K mainGlobals "number_of" = some (some (.ref f6))) (l6 : K.lookup f6 = some ⟨oc6, od6, .func (PySem.W.fnOf "number_of" "number_of" (defArgs s_number_of) (defBody s_number_of) (defScope s_number_of) .none kV6 dc6 pm6 an6 cd6 ct6), sl6⟩) (c6 : PySem.W.codeIn K cd6 "number_of" = true) (k6 : PySem.W.keepIn K (.ref f6) = true)
    {od7 an7 : Option Addr} {sl7 : Array (Option Value)} {oc7 kV7 dc7 pm7 cd7 ct7 : Value} (a7 : PySem.W.nsIn K mainGlobals "atom_at" = some (some (.ref f7))) (l7 : K.lookup f7 = some ⟨oc7, od7, .func (PySem.W.fnOf "atom_at" "atom_at" (defArgs s_atom_at) (defBody s_atom_at) (defScope s_atom_at) .none kV7 dc7 pm7 an7 cd7 ct7), sl7⟩) (c7 : PySem.W.codeIn K cd7 "atom_at" = true) (k7 : PySem.W.keepIn K (.ref f7) = true)
    {od8 an8 : Option Addr} {sl8 : Array (Option Value)} {oc8 kV8 dc8 pm8 cd8 ct8 : Value} (a8 : PySem.W.nsIn K mainGlobals "power_at" = some (some (.ref f8))) (l8 : K.lookup f8 = some ⟨oc8, od8, .func (PySem.W.fnOf "power_at" "power_at" (defArgs s_power_at) (defBody s_power_at) (defScope s_power_at) .none kV8 dc8 pm8 an8 cd8 ct8), sl8⟩) (c8 : PySem.W.codeIn K cd8 "power_at" = true) (k8 : PySem.W.keepIn K (.ref f8) = true)
    {od9 an9 : Option Addr} {sl9 : Array (Option Value)} {oc9 kV9 dc9 pm9 cd9 ct9 : Value} (a9 : PySem.W.nsIn K mainGlobals "product_at" = some (some (.ref f9))) (l9 : K.lookup f9 = some ⟨oc9, od9, .func (PySem.W.fnOf "product_at" "product_at" (defArgs s_product_at) (defBody s_product_at) (defScope s_product_at) .none kV9 dc9 pm9 an9 cd9 ct9), sl9⟩) (c9 : PySem.W.codeIn K cd9 "product_at" = true) (k9 : PySem.W.keepIn K (.ref f9) = true)
    {od10 an10 : Option Addr} {sl10 : Array (Option Value)} {oc10 kV10 dc10 pm10 cd10 ct10 : Value} (a10 : PySem.W.nsIn K mainGlobals "sum_at" = some (some (.ref f10))) (l10 : K.lookup f10 = some ⟨oc10, od10, .func (PySem.W.fnOf "sum_at" "sum_at" (defArgs s_sum_at) (defBody s_sum_at) (defScope s_sum_at) .none kV10 dc10 pm10 an10 cd10 ct10), sl10⟩) (c10 : PySem.W.codeIn K cd10 "sum_at" = true) (k10 : PySem.W.keepIn K (.ref f10) = true)
    {od11 an11 : Option Addr} {sl11 : Array (Option Value)} {oc11 kV11 dc11 pm11 cd11 ct11 : Value} (a11 : PySem.W.nsIn K mainGlobals "tree_of" = some (some (.ref f11))) (l11 : K.lookup f11 = some ⟨oc11, od11, .func (PySem.W.fnOf "tree_of" "tree_of" (defArgs s_tree_of) (defBody s_tree_of) (defScope s_tree_of) .none kV11 dc11 pm11 an11 cd11 ct11), sl11⟩) (c11 : PySem.W.codeIn K cd11 "tree_of" = true) (k11 : PySem.W.keepIn K (.ref f11) = true)
    {od12 an12 : Option Addr} {sl12 : Array (Option Value)} {oc12 kV12 dc12 pm12 cd12 ct12 : Value} (a12 : PySem.W.nsIn K mainGlobals "_law_refused" = some (some (.ref f12))) (l12 : K.lookup f12 = some ⟨oc12, od12, .func (PySem.W.fnOf "_law_refused" "_law_refused" (defArgs s__law_refused) (defBody s__law_refused) (defScope s__law_refused) .none kV12 dc12 pm12 an12 cd12 ct12), sl12⟩) (c12 : PySem.W.codeIn K cd12 "_law_refused" = true) (k12 : PySem.W.keepIn K (.ref f12) = true)
    {od13 an13 : Option Addr} {sl13 : Array (Option Value)} {oc13 kV13 dc13 pm13 cd13 ct13 : Value} (a13 : PySem.W.nsIn K mainGlobals "_law_whole" = some (some (.ref f13))) (l13 : K.lookup f13 = some ⟨oc13, od13, .func (PySem.W.fnOf "_law_whole" "_law_whole" (defArgs s__law_whole) (defBody s__law_whole) (defScope s__law_whole) .none kV13 dc13 pm13 an13 cd13 ct13), sl13⟩) (c13 : PySem.W.codeIn K cd13 "_law_whole" = true) (k13 : PySem.W.keepIn K (.ref f13) = true)
    {od14 an14 : Option Addr} {sl14 : Array (Option Value)} {oc14 kV14 dc14 pm14 cd14 ct14 : Value} (a14 : PySem.W.nsIn K mainGlobals "_law_alike" = some (some (.ref f14))) (l14 : K.lookup f14 = some ⟨oc14, od14, .func (PySem.W.fnOf "_law_alike" "_law_alike" (defArgs s__law_alike) (defBody s__law_alike) (defScope s__law_alike) .none kV14 dc14 pm14 an14 cd14 ct14), sl14⟩) (c14 : PySem.W.codeIn K cd14 "_law_alike" = true) (k14 : PySem.W.keepIn K (.ref f14) = true)
    {od15 an15 : Option Addr} {sl15 : Array (Option Value)} {oc15 kV15 dc15 pm15 cd15 ct15 : Value} (a15 : PySem.W.nsIn K mainGlobals "_law_edges" = some (some (.ref f15))) (l15 : K.lookup f15 = some ⟨oc15, od15, .func (PySem.W.fnOf "_law_edges" "_law_edges" (defArgs s__law_edges) (defBody s__law_edges) (defScope s__law_edges) .none kV15 dc15 pm15 an15 cd15 ct15), sl15⟩) (c15 : PySem.W.codeIn K cd15 "_law_edges" = true) (k15 : PySem.W.keepIn K (.ref f15) = true)
    {od16 an16 : Option Addr} {sl16 : Array (Option Value)} {oc16 kV16 dc16 pm16 cd16 ct16 : Value} (a16 : PySem.W.nsIn K mainGlobals "_law_atom" = some (some (.ref f16))) (l16 : K.lookup f16 = some ⟨oc16, od16, .func (PySem.W.fnOf "_law_atom" "_law_atom" (defArgs s__law_atom) (defBody s__law_atom) (defScope s__law_atom) .none kV16 dc16 pm16 an16 cd16 ct16), sl16⟩) (c16 : PySem.W.codeIn K cd16 "_law_atom" = true) (k16 : PySem.W.keepIn K (.ref f16) = true)
    {od17 an17 : Option Addr} {sl17 : Array (Option Value)} {oc17 kV17 dc17 pm17 cd17 ct17 : Value} (a17 : PySem.W.nsIn K mainGlobals "_law_shut" = some (some (.ref f17))) (l17 : K.lookup f17 = some ⟨oc17, od17, .func (PySem.W.fnOf "_law_shut" "_law_shut" (defArgs s__law_shut) (defBody s__law_shut) (defScope s__law_shut) .none kV17 dc17 pm17 an17 cd17 ct17), sl17⟩) (c17 : PySem.W.codeIn K cd17 "_law_shut" = true) (k17 : PySem.W.keepIn K (.ref f17) = true)
    {od18 an18 : Option Addr} {sl18 : Array (Option Value)} {oc18 kV18 dc18 pm18 cd18 ct18 : Value} (a18 : PySem.W.nsIn K mainGlobals "_law_fits" = some (some (.ref f18))) (l18 : K.lookup f18 = some ⟨oc18, od18, .func (PySem.W.fnOf "_law_fits" "_law_fits" (defArgs s__law_fits) (defBody s__law_fits) (defScope s__law_fits) .none kV18 dc18 pm18 an18 cd18 ct18), sl18⟩) (c18 : PySem.W.codeIn K cd18 "_law_fits" = true) (k18 : PySem.W.keepIn K (.ref f18) = true)
    {od19 an19 : Option Addr} {sl19 : Array (Option Value)} {oc19 kV19 dc19 pm19 cd19 ct19 : Value} (a19 : PySem.W.nsIn K mainGlobals "_law_at_least" = some (some (.ref f19))) (l19 : K.lookup f19 = some ⟨oc19, od19, .func (PySem.W.fnOf "_law_at_least" "_law_at_least" (defArgs s__law_at_least) (defBody s__law_at_least) (defScope s__law_at_least) .none kV19 dc19 pm19 an19 cd19 ct19), sl19⟩) (c19 : PySem.W.codeIn K cd19 "_law_at_least" = true) (k19 : PySem.W.keepIn K (.ref f19) = true)
    {od20 an20 : Option Addr} {sl20 : Array (Option Value)} {oc20 kV20 dc20 pm20 cd20 ct20 : Value} (a20 : PySem.W.nsIn K mainGlobals "_law_raised" = some (some (.ref f20))) (l20 : K.lookup f20 = some ⟨oc20, od20, .func (PySem.W.fnOf "_law_raised" "_law_raised" (defArgs s__law_raised) (defBody s__law_raised) (defScope s__law_raised) .none kV20 dc20 pm20 an20 cd20 ct20), sl20⟩) (c20 : PySem.W.codeIn K cd20 "_law_raised" = true) (k20 : PySem.W.keepIn K (.ref f20) = true)
    {od21 an21 : Option Addr} {sl21 : Array (Option Value)} {oc21 kV21 dc21 pm21 cd21 ct21 : Value} (a21 : PySem.W.nsIn K mainGlobals "_law_joined" = some (some (.ref f21))) (l21 : K.lookup f21 = some ⟨oc21, od21, .func (PySem.W.fnOf "_law_joined" "_law_joined" (defArgs s__law_joined) (defBody s__law_joined) (defScope s__law_joined) .none kV21 dc21 pm21 an21 cd21 ct21), sl21⟩) (c21 : PySem.W.codeIn K cd21 "_law_joined" = true) (k21 : PySem.W.keepIn K (.ref f21) = true)
    {od22 an22 : Option Addr} {sl22 : Array (Option Value)} {oc22 kV22 dc22 pm22 cd22 ct22 : Value} (a22 : PySem.W.nsIn K mainGlobals "_law_grown" = some (some (.ref f22))) (l22 : K.lookup f22 = some ⟨oc22, od22, .func (PySem.W.fnOf "_law_grown" "_law_grown" (defArgs s__law_grown) (defBody s__law_grown) (defScope s__law_grown) .none kV22 dc22 pm22 an22 cd22 ct22), sl22⟩) (c22 : PySem.W.codeIn K cd22 "_law_grown" = true) (k22 : PySem.W.keepIn K (.ref f22) = true)
    {od23 an23 : Option Addr} {sl23 : Array (Option Value)} {oc23 kV23 dc23 pm23 cd23 ct23 : Value} (a23 : PySem.W.nsIn K mainGlobals "_law_cell_at" = some (some (.ref f23))) (l23 : K.lookup f23 = some ⟨oc23, od23, .func (PySem.W.fnOf "_law_cell_at" "_law_cell_at" (defArgs s__law_cell_at) (defBody s__law_cell_at) (defScope s__law_cell_at) .none kV23 dc23 pm23 an23 cd23 ct23), sl23⟩) (c23 : PySem.W.codeIn K cd23 "_law_cell_at" = true) (k23 : PySem.W.keepIn K (.ref f23) = true)
    {od24 an24 : Option Addr} {sl24 : Array (Option Value)} {oc24 kV24 dc24 pm24 cd24 ct24 : Value} (a24 : PySem.W.nsIn K mainGlobals "_law_no_atom" = some (some (.ref f24))) (l24 : K.lookup f24 = some ⟨oc24, od24, .func (PySem.W.fnOf "_law_no_atom" "_law_no_atom" (defArgs s__law_no_atom) (defBody s__law_no_atom) (defScope s__law_no_atom) .none kV24 dc24 pm24 an24 cd24 ct24), sl24⟩) (c24 : PySem.W.codeIn K cd24 "_law_no_atom" = true) (k24 : PySem.W.keepIn K (.ref f24) = true)
    {od25 an25 : Option Addr} {sl25 : Array (Option Value)} {oc25 kV25 dc25 pm25 cd25 ct25 : Value} (a25 : PySem.W.nsIn K mainGlobals "law" = some (some (.ref f25))) (l25 : K.lookup f25 = some ⟨oc25, od25, .func (PySem.W.fnOf "law" "law" (defArgs s_law) (defBody s_law) (defScope s_law) .none kV25 dc25 pm25 an25 cd25 ct25), sl25⟩) (c25 : PySem.W.codeIn K cd25 "law" = true) (k25 : PySem.W.keepIn K (.ref f25) = true)
    (z_abs_ : PySem.W.nsIn K mainGlobals "abs" = some none)
    (z_bool_ : PySem.W.nsIn K mainGlobals "bool" = some none)
    (z_int_ : PySem.W.nsIn K mainGlobals "int" = some none)
    (z_isinstance : PySem.W.nsIn K mainGlobals "isinstance" = some none)
    (z_len_ : PySem.W.nsIn K mainGlobals "len" = some none)
    (z_list_ : PySem.W.nsIn K mainGlobals "list" = some none)
    (z_max_ : PySem.W.nsIn K mainGlobals "max" = some none)
    (z_range : PySem.W.nsIn K mainGlobals "range" = some none)
    (z_str_ : PySem.W.nsIn K mainGlobals "str" = some none)
    (z_tuple_ : PySem.W.nsIn K mainGlobals "tuple" = some none)
    {tk_DEEPEST : Tok} (v_DEEPEST : PySem.W.nsIn K mainGlobals "DEEPEST" = some (some (.int 16 tk_DEEPEST)))
    {tk_FIGURES : Tok} (v_FIGURES : PySem.W.nsIn K mainGlobals "FIGURES" = some (some (.str "0123456789" tk_FIGURES)))
    {a_KEPT : Addr} {dd_KEPT : Option Addr} {n_KEPT : Nat} {sl_KEPT : Array (Option Value)} {tk_KEPT0 tk_KEPT1 tk_KEPT2 tk_KEPT3 tk_KEPT4 tk_KEPT5 tk_KEPT6 tk_KEPT7 tk_KEPT8 tk_KEPT9 : Tok} (v_KEPT : PySem.W.nsIn K mainGlobals "KEPT" = some (some (.ref a_KEPT))) (u_KEPT : K.lookup a_KEPT = some ⟨.type "tuple", dd_KEPT, .seq #[.str "let" tk_KEPT0, .str "in" tk_KEPT1, .str "grid" tk_KEPT2, .str "fine" tk_KEPT3, .str "looks" tk_KEPT4, .str "solve" tk_KEPT5, .str "boxes" tk_KEPT6, .str "point" tk_KEPT7, .str "right" tk_KEPT8, .str "islands" tk_KEPT9] n_KEPT, sl_KEPT⟩)
    {tk_LETTERS : Tok} (v_LETTERS : PySem.W.nsIn K mainGlobals "LETTERS" = some (some (.str "abcdefghijklmnopqrstuvwxyz" tk_LETTERS)))
    {tk_LONGEST : Tok} (v_LONGEST : PySem.W.nsIn K mainGlobals "LONGEST" = some (some (.int 120 tk_LONGEST)))
    {a_POWERS : Addr} {es_POWERS : Array DictEntry} {n_POWERS : Nat} {tk_POWERS0 tk_POWERS1 tk_POWERS2 tk_POWERS3 tk_POWERS4 : Tok} (v_POWERS : PySem.W.nsIn K mainGlobals "POWERS" = some (some (.ref a_POWERS))) (u_POWERS : K.lookup a_POWERS = some ⟨.type "dict", none, .dict es_POWERS n_POWERS, #[]⟩) (d0_POWERS : PySem.W.nsIn K a_POWERS "2" = some (some (.int 2 tk_POWERS0))) (d1_POWERS : PySem.W.nsIn K a_POWERS "3" = some (some (.int 3 tk_POWERS1))) (d2_POWERS : PySem.W.nsIn K a_POWERS "4" = some (some (.int 4 tk_POWERS2))) (d3_POWERS : PySem.W.nsIn K a_POWERS "5" = some (some (.int 5 tk_POWERS3))) (d4_POWERS : PySem.W.nsIn K a_POWERS "6" = some (some (.int 6 tk_POWERS4)))
    {a_BoxError : Addr} (g_BoxError : PySem.W.nsIn K mainGlobals "BoxError" = some (some (.ref a_BoxError)))
    {a_NoNumber : Addr} (g_NoNumber : PySem.W.nsIn K mainGlobals "NoNumber" = some (some (.ref a_NoNumber)))
    {a_NoRow : Addr} (g_NoRow : PySem.W.nsIn K mainGlobals "NoRow" = some (some (.ref a_NoRow)))
    (p_BoxError : PySem.W.keepIn K (.ref a_BoxError) = true) (q_BoxError : PySem.W.excIn K a_BoxError [.type "ValueError", .type "Exception", .type "BaseException", .type "object"] "ValueError.__new__" = true) (r_BoxError : PySem.W.subIn K (.ref a_BoxError) (.type "BaseException") = some true) (t_BoxError : PySem.W.typeIn K (.ref a_BoxError) = some (.type "type"))
    (p_NoNumber : PySem.W.keepIn K (.ref a_NoNumber) = true) (q_NoNumber : PySem.W.excIn K a_NoNumber [.type "ValueError", .type "Exception", .type "BaseException", .type "object"] "ValueError.__new__" = true) (r_NoNumber : PySem.W.subIn K (.ref a_NoNumber) (.type "BaseException") = some true) (t_NoNumber : PySem.W.typeIn K (.ref a_NoNumber) = some (.type "type"))
    (p_NoRow : PySem.W.keepIn K (.ref a_NoRow) = true) (q_NoRow : PySem.W.excIn K a_NoRow [.type "ValueError", .type "Exception", .type "BaseException", .type "object"] "ValueError.__new__" = true) (r_NoRow : PySem.W.subIn K (.ref a_NoRow) (.type "BaseException") = some true) (t_NoRow : PySem.W.typeIn K (.ref a_NoRow) = some (.type "type"))
    (m_NoNumber_BoxError : PySem.W.exmOne K (.ref a_NoNumber) (.ref a_BoxError) = some true)
    (m_NoRow_BoxError : PySem.W.exmOne K (.ref a_NoRow) (.ref a_BoxError) = some true)
    (o_NoNumber_NoRow : PySem.W.kitOne K (.ref a_NoNumber) (.ref a_NoRow) = some false)
    (o_NoRow_NoRow : PySem.W.kitOne K (.ref a_NoRow) (.ref a_NoRow) = some true)
    (e_NoNumber : ExcC K a_NoNumber)
    (e_NoRow : ExcC K a_NoRow)
    (kl_POWERS : PySem.W.KeysLit w.params es_POWERS.toList) (kz_POWERS : (a_POWERS == sysModules) = false) (kk_POWERS : es_POWERS.toList.map keyT = (kd_POWERS.map Prod.fst).map some)
    : ∃ fd : FuncData, (∀ (s : Shared) (v : Value), BindsTo s fd ⟨[v], []⟩ [("_law_script", v)]) ∧ ∀ base : Heap, K.In base → base.Ns mainGlobals mg → FnOk l.prog w K mg base (L2.CX l.prog w) 75 fa fd ["_law_script"] (spL K) := by
  have e := hfa.symm.trans (PySem.W.mg_of X G a25)
  cases e
  have F0 := fun_mk (st := s_look_at_brackets) l0 c0 k0
  have b0 := F0.binds (ps := ["words"]) fun _ _ _ _ _ _ us hl => match us, hl with | [_], _ => rfl
  have F1 := fun_mk (st := s_word_at) l1 c1 k1
  have b1 := F1.binds (ps := ["words", "at"]) fun _ _ _ _ _ _ us hl => match us, hl with | [_, _], _ => rfl
  have F2 := fun_mk (st := s_is_name) l2 c2 k2
  have b2 := F2.binds (ps := ["word"]) fun _ _ _ _ _ _ us hl => match us, hl with | [_], _ => rfl
  have F3 := fun_mk (st := s_whole_of) l3 c3 k3
  have b3 := F3.binds (ps := ["figures"]) fun _ _ _ _ _ _ us hl => match us, hl with | [_], _ => rfl
  have F4 := fun_mk (st := s_divisor) l4 c4 k4
  have b4 := F4.binds (ps := ["a", "b"]) fun _ _ _ _ _ _ us hl => match us, hl with | [_, _], _ => rfl
  have F5 := fun_mk (st := s_fraction) l5 c5 k5
  have b5 := F5.binds (ps := ["top", "bottom"]) fun _ _ _ _ _ _ us hl => match us, hl with | [_, _], _ => rfl
  have F6 := fun_mk (st := s_number_of) l6 c6 k6
  have b6 := F6.binds (ps := ["word"]) fun _ _ _ _ _ _ us hl => match us, hl with | [_], _ => rfl
  have F7 := fun_mk (st := s_atom_at) l7 c7 k7
  have b7 := F7.binds (ps := ["words", "at"]) fun _ _ _ _ _ _ us hl => match us, hl with | [_, _], _ => rfl
  have F8 := fun_mk (st := s_power_at) l8 c8 k8
  have b8 := F8.binds (ps := ["words", "at"]) fun _ _ _ _ _ _ us hl => match us, hl with | [_, _], _ => rfl
  have F9 := fun_mk (st := s_product_at) l9 c9 k9
  have b9 := F9.binds (ps := ["words", "at"]) fun _ _ _ _ _ _ us hl => match us, hl with | [_, _], _ => rfl
  have F10 := fun_mk (st := s_sum_at) l10 c10 k10
  have b10 := F10.binds (ps := ["words", "at"]) fun _ _ _ _ _ _ us hl => match us, hl with | [_, _], _ => rfl
  have F11 := fun_mk (st := s_tree_of) l11 c11 k11
  have b11 := F11.binds (ps := ["words"]) fun _ _ _ _ _ _ us hl => match us, hl with | [_], _ => rfl
  have F12 := fun_mk (st := s__law_refused) l12 c12 k12
  have b12 := F12.binds (ps := ["_law_words"]) fun _ _ _ _ _ _ us hl => match us, hl with | [_], _ => rfl
  have F13 := fun_mk (st := s__law_whole) l13 c13 k13
  have b13 := F13.binds (ps := ["_law_found"]) fun _ _ _ _ _ _ us hl => match us, hl with | [_], _ => rfl
  have F14 := fun_mk (st := s__law_alike) l14 c14 k14
  have b14 := F14.binds (ps := ["_law_found", "_law_due"]) fun _ _ _ _ _ _ us hl => match us, hl with | [_, _], _ => rfl
  have F15 := fun_mk (st := s__law_edges) l15 c15 k15
  have b15 := F15.binds (ps := ["_law_cell"]) fun _ _ _ _ _ _ us hl => match us, hl with | [_], _ => rfl
  have F16 := fun_mk (st := s__law_atom) l16 c16 k16
  have b16 := F16.binds (ps := ["_law_cell"]) fun _ _ _ _ _ _ us hl => match us, hl with | [_], _ => rfl
  have F17 := fun_mk (st := s__law_shut) l17 c17 k17
  have b17 := F17.binds (ps := ["_law_piece"]) fun _ _ _ _ _ _ us hl => match us, hl with | [_], _ => rfl
  have F18 := fun_mk (st := s__law_fits) l18 c18 k18
  have b18 := F18.binds (ps := ["_law_piece"]) fun _ _ _ _ _ _ us hl => match us, hl with | [_], _ => rfl
  have F19 := fun_mk (st := s__law_at_least) l19 c19 k19
  have b19 := F19.binds (ps := ["_law_piece", "_law_level"]) fun _ _ _ _ _ _ us hl => match us, hl with | [_, _], _ => rfl
  have F20 := fun_mk (st := s__law_raised) l20 c20 k20
  have b20 := F20.binds (ps := ["_law_piece", "_law_many"]) fun _ _ _ _ _ _ us hl => match us, hl with | [_, _], _ => rfl
  have F21 := fun_mk (st := s__law_joined) l21 c21 k21
  have b21 := F21.binds (ps := ["_law_way", "_law_one", "_law_other"]) fun _ _ _ _ _ _ us hl => match us, hl with | [_, _, _], _ => rfl
  have F22 := fun_mk (st := s__law_grown) l22 c22 k22
  have b22 := F22.binds (ps := ["_law_pieces", "_law_cell"]) fun _ _ _ _ _ _ us hl => match us, hl with | [_, _], _ => rfl
  have F23 := fun_mk (st := s__law_cell_at) l23 c23 k23
  have b23 := F23.binds (ps := ["_law_script", "_law_k"]) fun _ _ _ _ _ _ us hl => match us, hl with | [_, _], _ => rfl
  have F24 := fun_mk (st := s__law_no_atom) l24 c24 k24
  have b24 := F24.binds (ps := ["_law_cell"]) fun _ _ _ _ _ _ us hl => match us, hl with | [_], _ => rfl
  have F25 := fun_mk (st := s_law) l25 c25 k25
  have b25 := F25.binds (ps := ["_law_script"]) fun _ _ _ _ _ _ us hl => match us, hl with | [_], _ => rfl
  have T : Tx w K mg (caF a_BoxError a_NoNumber a_NoRow) := { abs_ := PySem.W.mg_none_of X G z_abs_, bool_ := PySem.W.mg_none_of X G z_bool_, int_ := PySem.W.mg_none_of X G z_int_, isinstance := PySem.W.mg_none_of X G z_isinstance, len_ := PySem.W.mg_none_of X G z_len_, list_ := PySem.W.mg_none_of X G z_list_, max_ := PySem.W.mg_none_of X G z_max_, range := PySem.W.mg_none_of X G z_range, str_ := PySem.W.mg_none_of X G z_str_, tuple_ := PySem.W.mg_none_of X G z_tuple_, k_DEEPEST := kc_int (PySem.W.mg_of X G v_DEEPEST), k_FIGURES := kc_str (PySem.W.mg_of X G v_FIGURES), k_KEPT := kc_tupS (ss := ks_KEPT) (PySem.W.mg_of X G v_KEPT) fun H => .inr ⟨_, _, _, u_KEPT, rfl, rfl, (by show (10 : Nat) ≤ sizeLine; decide), (.cons ⟨_, rfl⟩ (.cons ⟨_, rfl⟩ (.cons ⟨_, rfl⟩ (.cons ⟨_, rfl⟩ (.cons ⟨_, rfl⟩ (.cons ⟨_, rfl⟩ (.cons ⟨_, rfl⟩ (.cons ⟨_, rfl⟩ (.cons ⟨_, rfl⟩ (.cons ⟨_, rfl⟩ .nil))))))))))⟩, k_LETTERS := kc_str (PySem.W.mg_of X G v_LETTERS), k_LONGEST := kc_int (PySem.W.mg_of X G v_LONGEST), kd_POWERS := kd_K (PySem.W.mg_of X G v_POWERS) u_POWERS kl_POWERS kz_POWERS kk_POWERS (by intro p hp; simp only [kd_POWERS, List.mem_cons, List.not_mem_nil, or_false] at hp; rcases hp with rfl | rfl | rfl | rfl | rfl <;> first | exact ⟨_, .int 2, d0_POWERS, ⟨_, rfl⟩, fun _ _ => rfl⟩ | exact ⟨_, .int 3, d1_POWERS, ⟨_, rfl⟩, fun _ _ => rfl⟩ | exact ⟨_, .int 4, d2_POWERS, ⟨_, rfl⟩, fun _ _ => rfl⟩ | exact ⟨_, .int 5, d3_POWERS, ⟨_, rfl⟩, fun _ _ => rfl⟩ | exact ⟨_, .int 6, d4_POWERS, ⟨_, rfl⟩, fun _ _ => rfl⟩), x_BoxError := ⟨PySem.W.mg_of X G g_BoxError, p_BoxError, q_BoxError, r_BoxError, t_BoxError⟩, x_NoNumber := ⟨PySem.W.mg_of X G g_NoNumber, p_NoNumber, q_NoNumber, r_NoNumber, t_NoNumber⟩, x_NoRow := ⟨PySem.W.mg_of X G g_NoRow, p_NoRow, q_NoRow, r_NoRow, t_NoRow⟩, h_BoxError := fun y t h => (by unfold sub_BoxError at h; by_cases e0 : y = "NoNumber"; (subst e0; simp only [String.reduceEq, if_true, if_false] at h; cases h; exact m_NoNumber_BoxError); rw [if_neg e0] at h; by_cases e1 : y = "NoRow"; (subst e1; simp only [String.reduceEq, if_true, if_false] at h; cases h; exact m_NoRow_BoxError); rw [if_neg e1] at h; cases h), n_BoxError := .inl (PySem.W.mg_of X G g_BoxError), i_NoRow := fun y t h => (by unfold is_NoRow at h; by_cases e0 : y = "NoNumber"; (subst e0; simp only [String.reduceEq, if_true, if_false] at h; cases h; exact ⟨e_NoNumber, o_NoNumber_NoRow⟩); rw [if_neg e0] at h; by_cases e1 : y = "NoRow"; (subst e1; simp only [String.reduceEq, if_true, if_false] at h; cases h; exact ⟨e_NoRow, o_NoRow_NoRow⟩); rw [if_neg e1] at h; cases h) }
  refine ⟨PySem.W.fnOf "law" "law" (defArgs s_law) (defBody s_law) (defScope s_law) .none kV25 dc25 pm25 an25 cd25 ct25, fun s v => .of_eq rfl, fun base _ _ => ?_⟩
  have G_look_at_brackets : Fo l.prog w K mg base (caF a_BoxError a_NoNumber a_NoRow) 1 "look_at_brackets" f_look_at_brackets := fo_of F0 (PySem.W.mg_of X G a0) b0 (ok_look_at_brackets T  F0)
  have G_word_at : Fo l.prog w K mg base (caF a_BoxError a_NoNumber a_NoRow) 1 "word_at" f_word_at := fo_of F1 (PySem.W.mg_of X G a1) b1 (ok_word_at T  F1)
  have G_is_name : Fo l.prog w K mg base (caF a_BoxError a_NoNumber a_NoRow) 1 "is_name" f_is_name := fo_of F2 (PySem.W.mg_of X G a2) b2 (ok_is_name T  F2)
  have G_whole_of : Fo l.prog w K mg base (caF a_BoxError a_NoNumber a_NoRow) 1 "whole_of" f_whole_of := fo_of F3 (PySem.W.mg_of X G a3) b3 (ok_whole_of T  F3)
  have G_divisor : Fo l.prog w K mg base (caF a_BoxError a_NoNumber a_NoRow) 1 "divisor" f_divisor := fo_of F4 (PySem.W.mg_of X G a4) b4 (ok_divisor T  F4)
  have G_fraction : Fo l.prog w K mg base (caF a_BoxError a_NoNumber a_NoRow) 2 "fraction" f_fraction := fo_of F5 (PySem.W.mg_of X G a5) b5 (ok_fraction T G_divisor F5)
  have G_number_of : Fo l.prog w K mg base (caF a_BoxError a_NoNumber a_NoRow) 3 "number_of" f_number_of := fo_of F6 (PySem.W.mg_of X G a6) b6 (ok_number_of T G_whole_of G_fraction F6)
  have R_sum_at : ∀ n : Nat, Fo l.prog w K mg base (caF a_BoxError a_NoNumber a_NoRow) (3 + n) "atom_at" (fr_atom_at n) ∧ Fo l.prog w K mg base (caF a_BoxError a_NoNumber a_NoRow) (3 + n) "power_at" (fr_power_at n) ∧ Fo l.prog w K mg base (caF a_BoxError a_NoNumber a_NoRow) (3 + n) "product_at" (fr_product_at n) ∧ Fo l.prog w K mg base (caF a_BoxError a_NoNumber a_NoRow) (3 + n) "sum_at" (fr_sum_at n) := by
    intro n
    induction n with
    | zero => exact ⟨fo_bad F7 (PySem.W.mg_of X G a7) b7, fo_bad F8 (PySem.W.mg_of X G a8) b8, fo_bad F9 (PySem.W.mg_of X G a9) b9, fo_bad F10 (PySem.W.mg_of X G a10) b10⟩
    | succ n ih =>
      obtain ⟨G_atom_at, G_power_at, G_product_at, G_sum_at⟩ := ih
      exact ⟨(fo_of F7 (PySem.W.mg_of X G a7) b7 (ok_atom_at T (by omega) G_word_at G_is_name G_number_of G_sum_at F7)).at (by omega), (fo_of F8 (PySem.W.mg_of X G a8) b8 (ok_power_at T (by omega) G_atom_at G_word_at F8)).at (by omega), (fo_of F9 (PySem.W.mg_of X G a9) b9 (ok_product_at T (by omega) G_power_at G_word_at F9)).at (by omega), (fo_of F10 (PySem.W.mg_of X G a10) b10 (ok_sum_at T (by omega) G_product_at G_word_at F10)).at (by omega)⟩
  obtain ⟨G_atom_at, G_power_at, G_product_at, G_sum_at⟩ := R_sum_at 68
  replace G_atom_at : Fo l.prog w K mg base (caF a_BoxError a_NoNumber a_NoRow) 71 "atom_at" f_atom_at := G_atom_at
  replace G_power_at : Fo l.prog w K mg base (caF a_BoxError a_NoNumber a_NoRow) 71 "power_at" f_power_at := G_power_at
  replace G_product_at : Fo l.prog w K mg base (caF a_BoxError a_NoNumber a_NoRow) 71 "product_at" f_product_at := G_product_at
  replace G_sum_at : Fo l.prog w K mg base (caF a_BoxError a_NoNumber a_NoRow) 71 "sum_at" f_sum_at := G_sum_at
  have G_tree_of : Fo l.prog w K mg base (caF a_BoxError a_NoNumber a_NoRow) 72 "tree_of" f_tree_of := fo_of F11 (PySem.W.mg_of X G a11) b11 (ok_tree_of T G_look_at_brackets G_sum_at F11)
  have G__law_refused : Fo l.prog w K mg base (caF a_BoxError a_NoNumber a_NoRow) 73 "_law_refused" f__law_refused := fo_of F12 (PySem.W.mg_of X G a12) b12 (ok__law_refused T G_tree_of F12)
  have G__law_whole : Fo l.prog w K mg base (caF a_BoxError a_NoNumber a_NoRow) 1 "_law_whole" f__law_whole := fo_of F13 (PySem.W.mg_of X G a13) b13 (ok__law_whole T  F13)
  have R__law_alike : ∀ n : Nat, Fo l.prog w K mg base (caF a_BoxError a_NoNumber a_NoRow) (1 + n) "_law_alike" (fr__law_alike n) := by
    intro n
    induction n with
    | zero => exact fo_bad F14 (PySem.W.mg_of X G a14) b14
    | succ n ih =>
      have G__law_alike := ih
      exact (fo_of F14 (PySem.W.mg_of X G a14) b14 (ok__law_alike T (by omega) G__law_alike G__law_whole F14)).at (by omega)
  have G__law_alike := R__law_alike 70
  replace G__law_alike : Fo l.prog w K mg base (caF a_BoxError a_NoNumber a_NoRow) 71 "_law_alike" f__law_alike := G__law_alike
  have G__law_edges : Fo l.prog w K mg base (caF a_BoxError a_NoNumber a_NoRow) 74 "_law_edges" f__law_edges := fo_of F15 (PySem.W.mg_of X G a15) b15 (ok__law_edges T G__law_refused G__law_alike G_tree_of F15)
  have G__law_atom : Fo l.prog w K mg base (caF a_BoxError a_NoNumber a_NoRow) 1 "_law_atom" f__law_atom := fo_of F16 (PySem.W.mg_of X G a16) b16 (ok__law_atom T  F16)
  have G__law_shut : Fo l.prog w K mg base (caF a_BoxError a_NoNumber a_NoRow) 1 "_law_shut" f__law_shut := fo_of F17 (PySem.W.mg_of X G a17) b17 (ok__law_shut T  F17)
  have G__law_fits : Fo l.prog w K mg base (caF a_BoxError a_NoNumber a_NoRow) 1 "_law_fits" f__law_fits := fo_of F18 (PySem.W.mg_of X G a18) b18 (ok__law_fits T  F18)
  have G__law_at_least : Fo l.prog w K mg base (caF a_BoxError a_NoNumber a_NoRow) 2 "_law_at_least" f__law_at_least := fo_of F19 (PySem.W.mg_of X G a19) b19 (ok__law_at_least T G__law_shut F19)
  have G__law_raised : Fo l.prog w K mg base (caF a_BoxError a_NoNumber a_NoRow) 3 "_law_raised" f__law_raised := fo_of F20 (PySem.W.mg_of X G a20) b20 (ok__law_raised T G__law_at_least F20)
  have G__law_joined : Fo l.prog w K mg base (caF a_BoxError a_NoNumber a_NoRow) 3 "_law_joined" f__law_joined := fo_of F21 (PySem.W.mg_of X G a21) b21 (ok__law_joined T G__law_at_least F21)
  have G__law_grown : Fo l.prog w K mg base (caF a_BoxError a_NoNumber a_NoRow) 4 "_law_grown" f__law_grown := fo_of F22 (PySem.W.mg_of X G a22) b22 (ok__law_grown T G__law_shut G__law_fits G__law_raised G__law_atom G__law_joined F22)
  have G__law_cell_at : Fo l.prog w K mg base (caF a_BoxError a_NoNumber a_NoRow) 1 "_law_cell_at" f__law_cell_at := fo_of F23 (PySem.W.mg_of X G a23) b23 (ok__law_cell_at T  F23)
  have G__law_no_atom : Fo l.prog w K mg base (caF a_BoxError a_NoNumber a_NoRow) 1 "_law_no_atom" f__law_no_atom := fo_of F24 (PySem.W.mg_of X G a24) b24 (ok__law_no_atom T  F24)
  exact (ok_law T G__law_edges G__law_atom G__law_grown G__law_joined G__law_fits G__law_cell_at G__law_refused G__law_alike G_tree_of G__law_no_atom F25).imp fun vs H Q E hs => sp_law law_true vs H Q E hs
end
end Lw
open PySem PySem.W PyProof.Rows
set_option maxHeartbeats 0 in
theorem PySem.Challenge.cw_boxnarrow_k13_trees_of_words_holds : PySem.Challenge.rw_boxnarrow_k13_trees_of_words.Holds := by
  w_on; o_law; k_head; (case hw => w_witness2)
  k_fill
  refine L2.walk_of (l := PySem.Challenge.rw_boxnarrow_k13_trees_of_words) (n := 63) (k := 75) (x := "_law_script") (CX := fun w => L2.CX PySem.Challenge.rw_boxnarrow_k13_trees_of_words.prog w) (sp := fun w => Lw.spL _) rfl (by decide) rfl ⟨rfl, by decide, by decide⟩ (fun w h Y => PySem.W.kIn_of Y) ?F (fun _ H a ns hl _ hS => ⟨a, ns, rfl, hl, hS, fun _ => rfl⟩) (fun _ _ _ _ _ h => Lw.cx_none h)
  case F =>
    intro w mg fa h KX G hmg
    refine' Lw.all_mk KX G hmg ?a0 ?l0 ?c0 ?k0 ?a1 ?l1 ?c1 ?k1 ?a2 ?l2 ?c2 ?k2 ?a3 ?l3 ?c3 ?k3 ?a4 ?l4 ?c4 ?k4 ?a5 ?l5 ?c5 ?k5 ?a6 ?l6 ?c6 ?k6 ?a7 ?l7 ?c7 ?k7 ?a8 ?l8 ?c8 ?k8 ?a9 ?l9 ?c9 ?k9 ?a10 ?l10 ?c10 ?k10 ?a11 ?l11 ?c11 ?k11 ?a12 ?l12 ?c12 ?k12 ?a13 ?l13 ?c13 ?k13 ?a14 ?l14 ?c14 ?k14 ?a15 ?l15 ?c15 ?k15 ?a16 ?l16 ?c16 ?k16 ?a17 ?l17 ?c17 ?k17 ?a18 ?l18 ?c18 ?k18 ?a19 ?l19 ?c19 ?k19 ?a20 ?l20 ?c20 ?k20 ?a21 ?l21 ?c21 ?k21 ?a22 ?l22 ?c22 ?k22 ?a23 ?l23 ?c23 ?k23 ?a24 ?l24 ?c24 ?k24 ?a25 ?l25 ?c25 ?k25 ?z_abs_ ?z_bool_ ?z_int_ ?z_isinstance ?z_len_ ?z_list_ ?z_max_ ?z_range ?z_str_ ?z_tuple_ ?v_DEEPEST ?v_FIGURES ?v_KEPT ?u_KEPT ?v_LETTERS ?v_LONGEST ?v_POWERS ?u_POWERS ?d0_POWERS ?d1_POWERS ?d2_POWERS ?d3_POWERS ?d4_POWERS ?g_BoxError ?g_NoNumber ?g_NoRow ?p_BoxError ?q_BoxError ?r_BoxError ?t_BoxError ?p_NoNumber ?q_NoNumber ?r_NoNumber ?t_NoNumber ?p_NoRow ?q_NoRow ?r_NoRow ?t_NoRow ?m_NoNumber_BoxError ?m_NoRow_BoxError ?o_NoNumber_NoRow ?o_NoRow_NoRow ?e_NoNumber ?e_NoRow ?kl_POWERS ?kz_POWERS ?kk_POWERS
    (case g_BoxError => k_is); (case g_NoNumber => k_is); (case g_NoRow => k_is); (case a0 => k_is); (case l0 => k_is); (case c0 => k_is); (case k0 => k_is); (case a1 => k_is); (case l1 => k_is); (case c1 => k_is); (case k1 => k_is); (case a2 => k_is); (case l2 => k_is); (case c2 => k_is); (case k2 => k_is); (case a3 => k_is); (case l3 => k_is); (case c3 => k_is); (case k3 => k_is); (case a4 => k_is); (case l4 => k_is); (case c4 => k_is); (case k4 => k_is); (case a5 => k_is); (case l5 => k_is); (case c5 => k_is); (case k5 => k_is); (case a6 => k_is); (case l6 => k_is); (case c6 => k_is); (case k6 => k_is); (case a7 => k_is); (case l7 => k_is); (case c7 => k_is); (case k7 => k_is); (case a8 => k_is); (case l8 => k_is); (case c8 => k_is); (case k8 => k_is); (case a9 => k_is); (case l9 => k_is); (case c9 => k_is); (case k9 => k_is); (case a10 => k_is); (case l10 => k_is); (case c10 => k_is); (case k10 => k_is); (case a11 => k_is); (case l11 => k_is); (case c11 => k_is); (case k11 => k_is); (case a12 => k_is); (case l12 => k_is); (case c12 => k_is); (case k12 => k_is); (case a13 => k_is); (case l13 => k_is); (case c13 => k_is); (case k13 => k_is); (case a14 => k_is); (case l14 => k_is); (case c14 => k_is); (case k14 => k_is); (case a15 => k_is); (case l15 => k_is); (case c15 => k_is); (case k15 => k_is); (case a16 => k_is); (case l16 => k_is); (case c16 => k_is); (case k16 => k_is); (case a17 => k_is); (case l17 => k_is); (case c17 => k_is); (case k17 => k_is); (case a18 => k_is); (case l18 => k_is); (case c18 => k_is); (case k18 => k_is); (case a19 => k_is); (case l19 => k_is); (case c19 => k_is); (case k19 => k_is); (case a20 => k_is); (case l20 => k_is); (case c20 => k_is); (case k20 => k_is); (case a21 => k_is); (case l21 => k_is); (case c21 => k_is); (case k21 => k_is); (case a22 => k_is); (case l22 => k_is); (case c22 => k_is); (case k22 => k_is); (case a23 => k_is); (case l23 => k_is); (case c23 => k_is); (case k23 => k_is); (case a24 => k_is); (case l24 => k_is); (case c24 => k_is); (case k24 => k_is); (case a25 => k_is); (case l25 => k_is); (case c25 => k_is); (case k25 => k_is); (case z_abs_ => k_is); (case z_bool_ => k_is); (case z_int_ => k_is); (case z_isinstance => k_is); (case z_len_ => k_is); (case z_list_ => k_is); (case z_max_ => k_is); (case z_range => k_is); (case z_str_ => k_is); (case z_tuple_ => k_is); (case v_DEEPEST => k_is); (case v_FIGURES => k_is); (case v_KEPT => k_is); (case u_KEPT => k_is); (case v_LETTERS => k_is); (case v_LONGEST => k_is); (case v_POWERS => k_is); (case u_POWERS => k_is); (case d0_POWERS => k_is); (case d1_POWERS => k_is); (case d2_POWERS => k_is); (case d3_POWERS => k_is); (case d4_POWERS => k_is); (case p_BoxError => k_is); (case q_BoxError => k_exc); (case r_BoxError => k_is); (case t_BoxError => k_is); (case p_NoNumber => k_is); (case q_NoNumber => k_exc); (case r_NoNumber => k_is); (case t_NoNumber => k_is); (case p_NoRow => k_is); (case q_NoRow => k_exc); (case r_NoRow => k_is); (case t_NoRow => k_is); (case m_NoNumber_BoxError => exact PySem.W.exm_ref (by k_is) (by k_is) (by k_is) (by k_is)); (case m_NoRow_BoxError => exact PySem.W.exm_ref (by k_is) (by k_is) (by k_is) (by k_is)); (case o_NoNumber_NoRow => exact Bn.kit_ref (by k_is) (by k_is) (by k_is) (by first | exact .inl rfl | exact .inr (by decide))); (case o_NoRow_NoRow => exact Bn.kit_same)
    (case e_NoNumber => exact ⟨by k_is, by k_is, by k_is, by k_is, by k_is, by k_is, by k_is, by k_is⟩)
    (case e_NoRow => exact ⟨by k_is, by k_is, by k_is, by k_is, by k_is, by k_is, by k_is, by k_is⟩)
    (case kl_POWERS => exact ⟨⟨_, _, rfl, rfl⟩, ⟨_, _, rfl, rfl⟩, ⟨_, _, rfl, rfl⟩, ⟨_, _, rfl, rfl⟩, ⟨_, _, rfl, rfl⟩, trivial⟩)
    (case kz_POWERS => decide)
    (case kk_POWERS => rfl)
