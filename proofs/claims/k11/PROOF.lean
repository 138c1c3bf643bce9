import PyProof.Rows.All
import Wide.All
import OpenK.AllK
import Wide.FinOn
import HandS.ForExc
import HandS.ForMost
import HandS.Wide
import HandS.IsInst
import HandS.ExcIs
import HandS.Deep
import HandS.SortInts
import HandS.TupLe
import HandS.Rev
import HandS.More
import HandS.Iter
import HandS.Zip0
import HandS.Head0
import HandS.Head1
import HandS.Head2
import HandS.HeadHook1
import HandS.HeadHook2
import HandS.HeadHook3
import HandS.Codes
import KE.SortData
import HandS.Conv
import HandS.WordsDict
import HandS.HotCalls
import PySem.Challenge.RW_boxnarrow_k11_numbers_written
set_option Elab.async false
set_option linter.all false
set_option maxRecDepth 100000
set_option maxHeartbeats 2000000
namespace Bn
open PySem PySem.Spec PyProof.Rows L2
open HandSHeadRun (frNat frNat_eq)
section
variable {α : Type}
end
def RunQ {β : Type} (r : PySem.W.OpenRow) (M : Nat) (w : World) (q : PySem.W.SharedT → β) (v : β) : Prop :=
  ∀ os : OsState, (HandSHeadRun.endF (HandSHeadRun.stepQ (HandSHeadRun.denQ HandSHeadRun.tabQ) r.prog w) M r.prog w os).map q = some v
theorem RunQ.and {β γ : Type} {r : PySem.W.OpenRow} {M : Nat} {w : World} {q1 : PySem.W.SharedT → β} {v1 : β} {q2 : PySem.W.SharedT → γ} {v2 : γ} (h1 : RunQ r M w q1 v1) (h2 : RunQ r M w q2 v2) : RunQ r M w (fun s => (q1 s, q2 s)) (v1, v2) := by
  intro os
  have e1 := h1 os
  have e2 := h2 os
  revert e1 e2
  generalize HandSHeadRun.endF _ M r.prog w os = o
  intro e1 e2
  cases o with
  | none => cases e1
  | some s =>
    have f1 : q1 s = v1 := Option.some.inj e1
    have f2 : q2 s = v2 := Option.some.inj e2
    show some (q1 s, q2 s) = _
    rw [f1, f2]
theorem RunQ.to {β γ : Type} {r : PySem.W.OpenRow} {M : Nat} {w : World} {q : PySem.W.SharedT → β} {v : β} {p : PySem.W.SharedT → γ} {u : γ} (h : RunQ r M w q v) (t : ∀ s, q s = v → p s = u) : RunQ r M w p u := by
  intro os
  have e := h os
  revert e
  generalize HandSHeadRun.endF _ M r.prog w os = o
  intro e
  cases o with
  | none => cases e
  | some s =>
    have f : q s = v := Option.some.inj e
    show some (p s) = _
    rw [t s f]
end Bn
namespace Lw
open PySem PySem.Spec PyProof.Rows L2
def topS (i : Nat) : Stmt := PySem.Challenge.pw_boxnarrow_k11_numbers_written.main.body.getD i (.Pass ⟨0, 0, 0, 0⟩)
abbrev s__law_divisor : Stmt := topS 21
abbrev s__law_text : Stmt := topS 22
abbrev s_whole_of : Stmt := topS 15
abbrev s_divisor : Stmt := topS 11
abbrev s_fraction : Stmt := topS 12
abbrev s_number_of : Stmt := topS 16
abbrev s_written : Stmt := topS 17
abbrev s__law_other : Stmt := topS 23
abbrev s__law_refused : Stmt := topS 24
abbrev s__law_no_number : Stmt := topS 25
abbrev s__law_cell_at : Stmt := topS 19
abbrev s__law_whole : Stmt := topS 20
abbrev s_law : Stmt := topS 26
end Lw
namespace Bn
open PySem PySem.Spec PyProof.Rows L2
inductive D where
  | non | bl (b : Bool) | int (i : Int) | str (s : Str) | ty (n : String)
  | tup (xs : List D)
  | lst (m : Bool) (xs : List D)
  | cst (xs : List D)
  | obj (m : Bool) (c : Str) (ns : List Str) (xs : List D)
  | val (v : V)
  | tpo (xs : List D)
  | dct (m : Bool) (ks : List Key) (xs : List D)
  | exc (c : Str)
  deriving Inhabited
abbrev Env := List (Option D)
abbrev Ct := Addr → Nat
def isFz : D → Bool
  | .lst true _ => false
  | .obj true _ _ _ => false
  | .tpo _ => false
  | .dct true _ _ => false
  | _ => true
mutual
def freeze : D → D
  | .lst true xs => .lst false (freezeL xs)
  | .lst false xs => .lst false xs
  | .obj true c ns xs => .obj false c ns (freezeL xs)
  | .obj false c ns xs => .obj false c ns xs
  | .tpo xs => .tup (freezeL xs)
  | .dct true ks xs => .dct false ks (freezeL xs)
  | .dct false ks xs => .dct false ks xs
  | .val v => .val v
  | .exc c => .exc c
  | .non => .non | .bl b => .bl b | .int i => .int i | .str s => .str s | .ty n => .ty n | .tup xs => .tup xs | .cst xs => .cst xs
def freezeL : List D → List D
  | [] => []
  | x :: xs => freeze x :: freezeL xs
end
section
variable (K : PySem.W.Frag) (ca : Str → Addr)
mutual
def Rep (F : Hp) : D → V → Prop
  | .non, v => v = .non
  | .bl b, v => v = .bl b
  | .int i, v => v = .int i
  | .str s, v => v = .str s
  | .ty n, v => v = .ty n
  | .val w, v => v = w
  | .exc c, v => ∃ a oe u, v = .ref a ∧ F a = some (.frz oe u) ∧ Zc (.ref (ca c)) none oe ∧ ∃ vs, oe.data = .fields vs
  | .tpo _, _ => False
  | .dct true _ _, _ => False
  | .dct false ks ds, v => ∃ a vs, v = .ref a ∧ F a = some (.dK (ks.zip vs)) ∧ ks.length = vs.length ∧ RepL F ds vs
  | .tup ds, v => ∃ a vs, v = .ref a ∧ SqT K F a vs ∧ RepL F ds vs
  | .lst true _, _ => False
  | .lst false ds, v => ∃ a vs, v = .ref a ∧ F a = some (.lst vs) ∧ RepL F ds vs
  | .cst ds, v => ∃ a vs, v = .ref a ∧ SqL K F a vs ∧ RepL F ds vs
  | .obj true _ _ _, _ => False
  | .obj false c ns ds, v => ∃ a dx fs vs, v = .ref a ∧ F a = some (.ins (ca c) dx fs) ∧ fs = ns.zip vs ∧ ns.length = vs.length ∧ RepL F ds vs
def RepL (F : Hp) : List D → List V → Prop
  | [], vs => vs = []
  | d :: ds, vs => ∃ v r, vs = v :: r ∧ Rep F d v ∧ RepL F ds r
end
mutual
def RepO (F H : Hp) : D → V → Ct → Prop
  | .lst true ds, v, f => ∃ a vs g, v = .ref a ∧ H a = some (.lst vs) ∧ RepOs F H ds vs g ∧ ∀ b, f b = (if b = a then 1 else 0) + g b
  | .obj true c ns ds, v, f => ∃ a dx fs vs g, v = .ref a ∧ H a = some (.ins (ca c) dx fs) ∧ fs = ns.zip vs ∧ ns.length = vs.length ∧ RepOs F H ds vs g ∧ ∀ b, f b = (if b = a then 1 else 0) + g b
  | .lst false ds, v, f => Rep K ca F (.lst false ds) v ∧ ∀ b, f b = 0
  | .obj false c ns ds, v, f => Rep K ca F (.obj false c ns ds) v ∧ ∀ b, f b = 0
  | .non, v, f => Rep K ca F .non v ∧ ∀ b, f b = 0
  | .bl x, v, f => Rep K ca F (.bl x) v ∧ ∀ b, f b = 0
  | .int x, v, f => Rep K ca F (.int x) v ∧ ∀ b, f b = 0
  | .str x, v, f => Rep K ca F (.str x) v ∧ ∀ b, f b = 0
  | .ty x, v, f => Rep K ca F (.ty x) v ∧ ∀ b, f b = 0
  | .val x, v, f => Rep K ca F (.val x) v ∧ ∀ b, f b = 0
  | .exc x, v, f => Rep K ca F (.exc x) v ∧ ∀ b, f b = 0
  | .tpo ds, v, f => ∃ a vs, v = .ref a ∧ SqT K F a vs ∧ RepOs F H ds vs f
  | .dct true ks ds, v, f => ∃ a vs g, v = .ref a ∧ H a = some (.dK (ks.zip vs)) ∧ ks.length = vs.length ∧ RepOs F H ds vs g ∧ ∀ b, f b = (if b = a then 1 else 0) + g b
  | .dct false ks ds, v, f => Rep K ca F (.dct false ks ds) v ∧ ∀ b, f b = 0
  | .tup x, v, f => Rep K ca F (.tup x) v ∧ ∀ b, f b = 0
  | .cst x, v, f => Rep K ca F (.cst x) v ∧ ∀ b, f b = 0
def RepOs (F H : Hp) : List D → List V → Ct → Prop
  | [], vs, f => vs = [] ∧ ∀ b, f b = 0
  | d :: ds, vs, f => ∃ v r f1 f2, vs = v :: r ∧ RepO F H d v f1 ∧ RepOs F H ds r f2 ∧ ∀ b, f b = f1 b + f2 b
end
end
section
variable {K : PySem.W.Frag} {ca : Str → Addr} {F F' H H' : Hp}
theorem sqT_same {K : PySem.W.Frag} {H H' : Hp} {a : Addr} {xs : List V} (e : Same H H') (h : SqT K H a xs) : SqT K H' a xs := by
  rcases h with (h | ⟨o, h⟩) | h
  · exact .inl (.inl (e _ _ h))
  · exact .inl (.inr ⟨o, e _ _ h⟩)
  · exact .inr h
mutual
theorem Rep.mono (e : Same F F') : ∀ (d : D) (v : V), Rep K ca F d v → Rep K ca F' d v
  | .non, _, h => h
  | .bl _, _, h => h
  | .int _, _, h => h
  | .str _, _, h => h
  | .ty _, _, h => h
  | .val _, _, h => h
  | .exc _, _, h => by
    obtain ⟨a, oe, u, h1, h2, h3⟩ := h
    exact ⟨a, oe, u, h1, e _ _ h2, h3⟩
  | .tpo _, _, h => h
  | .dct true _ _, _, h => h
  | .dct false ks ds, v, h => by
    obtain ⟨a, vs, h1, h2, h3, h4⟩ := h
    exact ⟨a, vs, h1, e _ _ h2, h3, RepL.mono e ds vs h4⟩
  | .tup ds, v, h => by
    obtain ⟨a, vs, h1, h2, h3⟩ := h
    exact ⟨a, vs, h1, sqT_same e h2, RepL.mono e ds vs h3⟩
  | .lst true _, _, h => h
  | .lst false ds, v, h => by
    obtain ⟨a, vs, h1, h2, h3⟩ := h
    exact ⟨a, vs, h1, e _ _ h2, RepL.mono e ds vs h3⟩
  | .cst ds, v, h => by
    obtain ⟨a, vs, h1, h2, h3⟩ := h
    exact ⟨a, vs, h1, e.seq h2, RepL.mono e ds vs h3⟩
  | .obj true _ _ _, _, h => h
  | .obj false c ns ds, v, h => by
    obtain ⟨a, dx, fs, vs, h1, h2, h3, h4, h5⟩ := h
    exact ⟨a, dx, fs, vs, h1, e _ _ h2, h3, h4, RepL.mono e ds vs h5⟩
theorem RepL.mono (e : Same F F') : ∀ (ds : List D) (vs : List V), RepL K ca F ds vs → RepL K ca F' ds vs
  | [], _, h => h
  | d :: ds, _, h => by
    obtain ⟨v, r, h1, h2, h3⟩ := h
    exact ⟨v, r, h1, Rep.mono e d v h2, RepL.mono e ds r h3⟩
end
theorem repO_fz {d : D} (hd : isFz d = true) {v : V} {f : Ct} : RepO K ca F H d v f ↔ (Rep K ca F d v ∧ ∀ b, f b = 0) := by
  cases d with
  | lst m xs => cases m with
    | true => cases hd
    | false => exact Iff.rfl
  | obj m c ns xs => cases m with
    | true => cases hd
    | false => exact Iff.rfl
  | tpo xs => cases hd
  | dct m ks xs => cases m with
    | true => cases hd
    | false => exact Iff.rfl
  | _ => exact Iff.rfl
theorem rep_isFz {d : D} {v : V} (h : Rep K ca F d v) : isFz d = true := by
  cases d with
  | lst m xs => cases m with
    | true => exact h.elim
    | false => rfl
  | obj m c ns xs => cases m with
    | true => exact h.elim
    | false => rfl
  | tpo xs => exact h.elim
  | dct m ks xs => cases m with
    | true => exact h.elim
    | false => rfl
  | _ => rfl
theorem Rep.o {d : D} {v : V} (h : Rep K ca F d v) : RepO K ca F H d v (fun _ => 0) := (repO_fz (rep_isFz h)).mpr ⟨h, fun _ => rfl⟩
theorem RepL.os : ∀ {ds : List D} {vs : List V}, RepL K ca F ds vs → RepOs K ca F H ds vs (fun _ => 0)
  | [], _, h => ⟨h, fun _ => rfl⟩
  | _ :: _, _, ⟨v, r, h1, h2, h3⟩ => ⟨v, r, _, _, h1, h2.o, h3.os, fun _ => rfl⟩
mutual
theorem RepO.mono (e : Same F F') : ∀ (d : D) (v : V) (f : Ct), (∀ a, 0 < f a → H' a = H a) → RepO K ca F H d v f → RepO K ca F' H' d v f
  | .lst true ds, v, f, k, h => by
    obtain ⟨a, vs, g, h1, h2, h3, h4⟩ := h
    refine ⟨a, vs, g, h1, (k a (by rw [h4, if_pos rfl]; omega)).trans h2, RepOs.mono e ds vs g (fun b hb => k b (by rw [h4]; omega)) h3, h4⟩
  | .obj true c ns ds, v, f, k, h => by
    obtain ⟨a, dx, fs, vs, g, h1, h2, h5, h6, h3, h4⟩ := h
    refine ⟨a, dx, fs, vs, g, h1, (k a (by rw [h4, if_pos rfl]; omega)).trans h2, h5, h6, RepOs.mono e ds vs g (fun b hb => k b (by rw [h4]; omega)) h3, h4⟩
  | .lst false ds, v, f, k, h => ⟨Rep.mono e _ _ h.1, h.2⟩
  | .obj false c ns ds, v, f, k, h => ⟨Rep.mono e _ _ h.1, h.2⟩
  | .non, v, f, k, h => ⟨Rep.mono e _ _ h.1, h.2⟩
  | .bl _, v, f, k, h => ⟨Rep.mono e _ _ h.1, h.2⟩
  | .int _, v, f, k, h => ⟨Rep.mono e _ _ h.1, h.2⟩
  | .str _, v, f, k, h => ⟨Rep.mono e _ _ h.1, h.2⟩
  | .ty _, v, f, k, h => ⟨Rep.mono e _ _ h.1, h.2⟩
  | .val _, v, f, k, h => ⟨Rep.mono e _ _ h.1, h.2⟩
  | .exc _, v, f, k, h => ⟨Rep.mono e _ _ h.1, h.2⟩
  | .tpo ds, v, f, k, h => by
    obtain ⟨a, vs, h1, h2, h3⟩ := h
    exact ⟨a, vs, h1, sqT_same e h2, RepOs.mono e ds vs f k h3⟩
  | .dct true ks ds, v, f, k, h => by
    obtain ⟨a, vs, g, h1, h2, h5, h3, h4⟩ := h
    refine ⟨a, vs, g, h1, (k a (by rw [h4, if_pos rfl]; omega)).trans h2, h5, RepOs.mono e ds vs g (fun b hb => k b (by rw [h4]; omega)) h3, h4⟩
  | .dct false _ _, v, f, k, h => ⟨Rep.mono e _ _ h.1, h.2⟩
  | .tup _, v, f, k, h => ⟨Rep.mono e _ _ h.1, h.2⟩
  | .cst _, v, f, k, h => ⟨Rep.mono e _ _ h.1, h.2⟩
theorem RepOs.mono (e : Same F F') : ∀ (ds : List D) (vs : List V) (f : Ct), (∀ a, 0 < f a → H' a = H a) → RepOs K ca F H ds vs f → RepOs K ca F' H' ds vs f
  | [], _, _, _, h => h
  | d :: ds, _, f, k, h => by
    obtain ⟨v, r, f1, f2, h1, h2, h3, h4⟩ := h
    exact ⟨v, r, f1, f2, h1, RepO.mono e d v f1 (fun b hb => k b (by rw [h4]; omega)) h2, RepOs.mono e ds r f2 (fun b hb => k b (by rw [h4]; omega)) h3, h4⟩
end
mutual
theorem RepO.there : ∀ (d : D) (v : V) (f : Ct), RepO K ca F H d v f → ∀ a, 0 < f a → H a ≠ none
  | .lst true ds, v, f, h, b, hb => by
    obtain ⟨a, vs, g, h1, h2, h3, h4⟩ := h
    by_cases e : b = a
    · subst e; rw [h2]; exact fun z => by cases z
    · rw [h4, if_neg e] at hb; exact RepOs.there ds vs g h3 b (by omega)
  | .obj true c ns ds, v, f, h, b, hb => by
    obtain ⟨a, dx, fs, vs, g, h1, h2, h5, h6, h3, h4⟩ := h
    by_cases e : b = a
    · subst e; rw [h2]; exact fun z => by cases z
    · rw [h4, if_neg e] at hb; exact RepOs.there ds vs g h3 b (by omega)
  | .lst false ds, v, f, h, b, hb => by rw [h.2] at hb; omega
  | .obj false c ns ds, v, f, h, b, hb => by rw [h.2] at hb; omega
  | .non, v, f, h, b, hb => by rw [h.2] at hb; omega
  | .bl _, v, f, h, b, hb => by rw [h.2] at hb; omega
  | .int _, v, f, h, b, hb => by rw [h.2] at hb; omega
  | .str _, v, f, h, b, hb => by rw [h.2] at hb; omega
  | .ty _, v, f, h, b, hb => by rw [h.2] at hb; omega
  | .val _, v, f, h, b, hb => by rw [h.2] at hb; omega
  | .exc _, v, f, h, b, hb => by rw [h.2] at hb; omega
  | .tpo ds, v, f, h, b, hb => by
    obtain ⟨a, vs, h1, h2, h3⟩ := h
    exact RepOs.there ds vs f h3 b hb
  | .dct true ks ds, v, f, h, b, hb => by
    obtain ⟨a, vs, g, h1, h2, h5, h3, h4⟩ := h
    by_cases e : b = a
    · subst e; rw [h2]; exact fun z => by cases z
    · rw [h4, if_neg e] at hb; exact RepOs.there ds vs g h3 b (by omega)
  | .dct false _ _, v, f, h, b, hb => by rw [h.2] at hb; omega
  | .tup _, v, f, h, b, hb => by rw [h.2] at hb; omega
  | .cst _, v, f, h, b, hb => by rw [h.2] at hb; omega
theorem RepOs.there : ∀ (ds : List D) (vs : List V) (f : Ct), RepOs K ca F H ds vs f → ∀ a, 0 < f a → H a ≠ none
  | [], _, f, h, b, hb => by rw [h.2] at hb; omega
  | d :: ds, _, f, h, b, hb => by
    obtain ⟨v, r, f1, f2, h1, h2, h3, h4⟩ := h
    rw [h4] at hb
    by_cases q : 0 < f1 b
    · exact RepO.there d v f1 h2 b q
    · exact RepOs.there ds r f2 h3 b (by omega)
end
mutual
theorem RepO.fz (e : Same F F') : ∀ (d : D) (v : V) (f : Ct), (∀ a, 0 < f a → F' a = H a) → RepO K ca F H d v f → Rep K ca F' (freeze d) v
  | .lst true ds, v, f, k, h => by
    obtain ⟨a, vs, g, h1, h2, h3, h4⟩ := h
    exact ⟨a, vs, h1, (k a (by rw [h4, if_pos rfl]; omega)).trans h2, RepOs.fz e ds vs g (fun b hb => k b (by rw [h4]; omega)) h3⟩
  | .obj true c ns ds, v, f, k, h => by
    obtain ⟨a, dx, fs, vs, g, h1, h2, h5, h6, h3, h4⟩ := h
    exact ⟨a, dx, fs, vs, h1, (k a (by rw [h4, if_pos rfl]; omega)).trans h2, h5, h6, RepOs.fz e ds vs g (fun b hb => k b (by rw [h4]; omega)) h3⟩
  | .lst false ds, v, f, k, h => Rep.mono e _ _ h.1
  | .obj false c ns ds, v, f, k, h => Rep.mono e _ _ h.1
  | .non, v, f, k, h => Rep.mono e _ _ h.1
  | .bl _, v, f, k, h => Rep.mono e _ _ h.1
  | .int _, v, f, k, h => Rep.mono e _ _ h.1
  | .str _, v, f, k, h => Rep.mono e _ _ h.1
  | .ty _, v, f, k, h => Rep.mono e _ _ h.1
  | .val _, v, f, k, h => Rep.mono e _ _ h.1
  | .exc _, v, f, k, h => Rep.mono e _ _ h.1
  | .tpo ds, v, f, k, h => by
    obtain ⟨a, vs, h1, h2, h3⟩ := h
    exact ⟨a, vs, h1, sqT_same e h2, RepOs.fz e ds vs f k h3⟩
  | .dct true ks ds, v, f, k, h => by
    obtain ⟨a, vs, g, h1, h2, h5, h3, h4⟩ := h
    exact ⟨a, vs, h1, (k a (by rw [h4, if_pos rfl]; omega)).trans h2, h5, RepOs.fz e ds vs g (fun b hb => k b (by rw [h4]; omega)) h3⟩
  | .dct false _ _, v, f, k, h => Rep.mono e _ _ h.1
  | .tup _, v, f, k, h => Rep.mono e _ _ h.1
  | .cst _, v, f, k, h => Rep.mono e _ _ h.1
theorem RepOs.fz (e : Same F F') : ∀ (ds : List D) (vs : List V) (f : Ct), (∀ a, 0 < f a → F' a = H a) → RepOs K ca F H ds vs f → RepL K ca F' (freezeL ds) vs
  | [], _, _, _, h => h.1
  | d :: ds, _, f, k, h => by
    obtain ⟨v, r, f1, f2, h1, h2, h3, h4⟩ := h
    exact ⟨v, r, h1, RepO.fz e d v f1 (fun b hb => k b (by rw [h4]; omega)) h2, RepOs.fz e ds r f2 (fun b hb => k b (by rw [h4]; omega)) h3⟩
end
theorem RepL.length : ∀ {ds : List D} {vs : List V}, RepL K ca F ds vs → vs.length = ds.length
  | [], _, h => by have h : _ = [] := h; rw [h]; rfl
  | _ :: _, _, ⟨v, r, h1, h2, h3⟩ => by rw [h1, List.length_cons, List.length_cons, h3.length]
theorem RepOs.length : ∀ {ds : List D} {vs : List V} {f : Ct}, RepOs K ca F H ds vs f → vs.length = ds.length
  | [], _, _, h => by rw [h.1]; rfl
  | _ :: _, _, _, ⟨v, r, _, _, h1, h2, h3, _⟩ => by rw [h1, List.length_cons, List.length_cons, h3.length]
theorem RepL.get : ∀ {ds : List D} {vs : List V} {i : Nat} {d : D}, RepL K ca F ds vs → ds[i]? = some d → ∃ v, vs[i]? = some v ∧ Rep K ca F d v
  | [], _, _, _, _, e => by simp at e
  | d :: _, _, 0, _, ⟨v, r, h1, h2, h3⟩, e => by simp at e; subst e; subst h1; exact ⟨v, rfl, h2⟩
  | _ :: _, _, i + 1, d, ⟨v, r, h1, h2, h3⟩, e => by subst h1; simpa using h3.get (i := i) (by simpa using e)
theorem RepOs.get : ∀ {ds : List D} {vs : List V} {f : Ct} {i : Nat} {d : D}, RepOs K ca F H ds vs f → ds[i]? = some d → ∃ v g, vs[i]? = some v ∧ RepO K ca F H d v g
  | [], _, _, _, _, _, e => by simp at e
  | d :: _, _, _, 0, _, ⟨v, r, f1, f2, h1, h2, h3, _⟩, e => by simp at e; subst e; subst h1; exact ⟨v, f1, rfl, h2⟩
  | _ :: _, _, _, i + 1, d, ⟨v, r, f1, f2, h1, h2, h3, _⟩, e => by subst h1; simpa using h3.get (i := i) (by simpa using e)
theorem RepOs.append : ∀ {ds es : List D} {vs us : List V} {f g : Ct}, RepOs K ca F H ds vs f → RepOs K ca F H es us g → RepOs K ca F H (ds ++ es) (vs ++ us) (fun b => f b + g b)
  | [], es, _, us, f, g, h, k => by
    obtain ⟨rfl, h2⟩ := h
    have e : (fun b => f b + g b) = g := funext fun b => by rw [h2]; omega
    rw [e]; exact k
  | _ :: _, _, _, _, f, g, ⟨v, r, f1, f2, h1, h2, h3, h4⟩, k => by
    subst h1
    exact ⟨v, _, f1, _, rfl, h2, h3.append k, fun b => by show f b + g b = f1 b + (f2 b + g b); rw [h4]; omega⟩
theorem RepOs.split : ∀ {ds es : List D} {ws : List V} {f : Ct}, RepOs K ca F H (ds ++ es) ws f → ∃ vs us g1 g2, ws = vs ++ us ∧ RepOs K ca F H ds vs g1 ∧ RepOs K ca F H es us g2 ∧ ∀ b, f b = g1 b + g2 b
  | [], es, ws, f, h => ⟨[], ws, fun _ => 0, f, rfl, ⟨rfl, fun _ => rfl⟩, h, fun b => by show f b = 0 + f b; omega⟩
  | _ :: _, _, _, f, ⟨v, r, f1, f2, h1, h2, h3, h4⟩ => by
    obtain ⟨vs, us, g1, g2, e, k1, k2, k3⟩ := RepOs.split h3
    subst h1; subst e
    exact ⟨v :: vs, us, fun b => f1 b + g1 b, g2, rfl, ⟨v, vs, f1, g1, rfl, h2, k1, fun _ => rfl⟩, k2, fun b => by show f b = (f1 b + g1 b) + g2 b; rw [h4, k3]; omega⟩
theorem RepOs.split' {ds es : List D} {vs us : List V} {f : Ct} (h : RepOs K ca F H (ds ++ es) (vs ++ us) f) (hl : vs.length = ds.length) : ∃ g1 g2, RepOs K ca F H ds vs g1 ∧ RepOs K ca F H es us g2 ∧ ∀ b, f b = g1 b + g2 b := by
  obtain ⟨vs', us', g1, g2, e, k1, k2, k3⟩ := h.split
  have hl' := k1.length
  obtain ⟨rfl, rfl⟩ := List.append_inj e (by omega)
  exact ⟨g1, g2, k1, k2, k3⟩
end
section
variable (K : PySem.W.Frag) (ca : Str → Addr) (F H : Hp)
def Sl : Env → L2.St → Ct → Prop
  | [], σ, f => σ = [] ∧ ∀ b, f b = 0
  | none :: τ, σ, f => ∃ x r, σ = x :: r ∧ Sl τ r f
  | some d :: τ, σ, f => ∃ v r f1 f2, σ = some v :: r ∧ RepO K ca F H d v f1 ∧ Sl τ r f2 ∧ ∀ b, f b = f1 b + f2 b
end
section
variable {K : PySem.W.Frag} {ca : Str → Addr} {F F' H H' : Hp}
theorem Sl.mono (e : Same F F') : ∀ {τ : Env} {σ : L2.St} {f : Ct}, (∀ a, 0 < f a → H' a = H a) → Sl K ca F H τ σ f → Sl K ca F' H' τ σ f
  | [], _, _, _, h => h
  | none :: _, _, _, k, ⟨x, r, h1, h2⟩ => ⟨x, r, h1, Sl.mono e k h2⟩
  | some _ :: _, _, f, k, ⟨v, r, f1, f2, h1, h2, h3, h4⟩ => ⟨v, r, f1, f2, h1, RepO.mono e _ _ _ (fun b hb => k b (by rw [h4]; omega)) h2, Sl.mono e (fun b hb => k b (by rw [h4]; omega)) h3, h4⟩
theorem Sl.there : ∀ {τ : Env} {σ : L2.St} {f : Ct}, Sl K ca F H τ σ f → ∀ a, 0 < f a → H a ≠ none
  | [], _, _, h, b, hb => by rw [h.2] at hb; omega
  | none :: _, _, _, ⟨x, r, h1, h2⟩, b, hb => Sl.there h2 b hb
  | some _ :: _, _, f, ⟨v, r, f1, f2, h1, h2, h3, h4⟩, b, hb => by
    rw [h4] at hb
    by_cases q : 0 < f1 b
    · exact RepO.there _ v f1 h2 b q
    · exact Sl.there h3 b (by omega)
theorem Sl.length : ∀ {τ : Env} {σ : L2.St} {f : Ct}, Sl K ca F H τ σ f → σ.length = τ.length
  | [], _, _, h => by rw [h.1]; rfl
  | none :: _, _, _, ⟨x, r, h1, h2⟩ => by rw [h1, List.length_cons, List.length_cons, Sl.length h2]
  | some _ :: _, _, f, ⟨v, r, f1, f2, h1, h2, h3, h4⟩ => by rw [h1, List.length_cons, List.length_cons, Sl.length h3]
theorem Sl.get : ∀ {τ : Env} {σ : L2.St} {f : Ct} {i : Nat} {d : D}, Sl K ca F H τ σ f → τ[i]? = some (some d) → ∃ v g, σ[i]? = some (some v) ∧ RepO K ca F H d v g
  | [], _, _, _, _, _, e => by simp at e
  | none :: _, _, _, 0, _, _, e => by simp at e
  | none :: _, _, _, i + 1, _, ⟨x, r, h1, h2⟩, e => by subst h1; simpa using Sl.get (i := i) h2 (by simpa using e)
  | some _ :: _, _, _, 0, _, ⟨v, r, f1, f2, h1, h2, h3, h4⟩, e => by simp at e; subst e; subst h1; exact ⟨v, f1, rfl, h2⟩
  | some _ :: _, _, _, i + 1, _, ⟨v, r, f1, f2, h1, h2, h3, h4⟩, e => by subst h1; simpa using Sl.get (i := i) h3 (by simpa using e)
theorem Sl.take : ∀ {τ : Env} {σ : L2.St} {f : Ct} {i : Nat} {d : D}, Sl K ca F H τ σ f → τ[i]? = some (some d) → ∃ v g1 g2, σ[i]? = some (some v) ∧ RepO K ca F H d v g1 ∧ Sl K ca F H (τ.set i none) σ g2 ∧ ∀ b, f b = g1 b + g2 b
  | [], _, _, _, _, _, e => by simp at e
  | none :: _, _, _, 0, _, _, e => by simp at e
  | none :: _, _, _, i + 1, _, ⟨x, r, h1, h2⟩, e => by
    subst h1
    obtain ⟨v, g1, g2, k1, k2, k3, k4⟩ := Sl.take (i := i) h2 (by simpa using e)
    exact ⟨v, g1, g2, by simpa using k1, k2, ⟨x, r, rfl, k3⟩, k4⟩
  | some _ :: _, _, _, 0, _, ⟨v, r, f1, f2, h1, h2, h3, h4⟩, e => by simp at e; subst e; subst h1; exact ⟨v, f1, f2, rfl, h2, ⟨_, r, rfl, h3⟩, h4⟩
  | some _ :: _, _, f, i + 1, _, ⟨v, r, f1, f2, h1, h2, h3, h4⟩, e => by
    subst h1
    obtain ⟨v', g1, g2, k1, k2, k3, k4⟩ := Sl.take (i := i) h3 (by simpa using e)
    exact ⟨v', g1, fun b => f1 b + g2 b, by simpa using k1, k2, ⟨v, r, f1, g2, rfl, h2, k3, fun _ => rfl⟩, fun b => by show f b = g1 b + (f1 b + g2 b); rw [h4, k4]; omega⟩
theorem Sl.put : ∀ {τ : Env} {σ : L2.St} {f : Ct} {i : Nat} {d : D} {v : V} {g : Ct}, Sl K ca F H τ σ f → i < τ.length → RepO K ca F H d v g → ∃ f2, Sl K ca F H (τ.set i (some d)) (σ.set i (some v)) f2 ∧ ∀ b, f2 b ≤ f b + g b
  | [], _, _, _, _, _, _, _, e, _ => by simp at e
  | none :: _, _, f, 0, _, v, g, ⟨x, r, h1, h2⟩, e, hv => by subst h1; exact ⟨fun b => g b + f b, ⟨v, r, g, f, rfl, hv, h2, fun _ => rfl⟩, fun b => by show g b + f b ≤ f b + g b; omega⟩
  | none :: _, _, f, i + 1, _, v, g, ⟨x, r, h1, h2⟩, e, hv => by
    subst h1
    obtain ⟨f2, k1, k2⟩ := Sl.put (i := i) h2 (by simpa using e) hv
    exact ⟨f2, ⟨x, _, rfl, k1⟩, k2⟩
  | some _ :: _, _, f, 0, _, v, g, ⟨w, r, f1, f2, h1, h2, h3, h4⟩, e, hv => by subst h1; exact ⟨fun b => g b + f2 b, ⟨v, r, g, f2, rfl, hv, h3, fun _ => rfl⟩, fun b => by show g b + f2 b ≤ f b + g b; rw [h4]; omega⟩
  | some _ :: _, _, f, i + 1, _, v, g, ⟨w, r, f1, f2, h1, h2, h3, h4⟩, e, hv => by
    subst h1
    obtain ⟨f3, k1, k2⟩ := Sl.put (i := i) h3 (by simpa using e) hv
    exact ⟨fun b => f1 b + f3 b, ⟨w, _, f1, f3, rfl, h2, k1, fun _ => rfl⟩, fun b => by show f1 b + f3 b ≤ f b + g b; have := k2 b; rw [h4]; omega⟩
theorem Sl.drop : ∀ {τ : Env} {σ : L2.St} {f : Ct} {i : Nat}, Sl K ca F H τ σ f → ∃ f2, Sl K ca F H (τ.set i none) σ f2 ∧ ∀ b, f2 b ≤ f b := fun {τ σ f i} h => by
  cases e : τ[i]? with
  | none => rw [List.set_eq_of_length_le (by simpa using e)]; exact ⟨f, h, fun _ => Nat.le_refl _⟩
  | some x =>
    cases x with
    | none =>
      have : τ.set i none = τ := by
        apply List.ext_getElem?
        intro j
        rw [List.getElem?_set]
        split
        · rename_i q; subst q; split
          · exact e.symm
          · rename_i hl; rw [List.getElem?_eq_none (by omega)]
        · rfl
      rw [this]; exact ⟨f, h, fun _ => Nat.le_refl _⟩
    | some d =>
      obtain ⟨v, g1, g2, _, _, k, q⟩ := h.take e
      exact ⟨g2, k, fun b => by rw [q]; omega⟩
end
structure Bx where
  ca : Str → Addr
  F0 : Hp
  R : Hp
  io : List (Nat × V)
structure Wd (B : Bx) (F H : Hp) (f : Ct) : Prop where
  nd : ∀ a, f a ≤ 1
  dF : ∀ a, 0 < f a → F a = none
  dR : ∀ a, 0 < f a → B.R a = none
  sF : Same F H
  sR : Same B.R H
  s0 : Same B.F0 F
  fr : ∀ a, F a ≠ none → B.F0 a ≠ none ∨ B.R a = none
def IoOk (B : Bx) (σ : L2.St) : Prop := ∀ p ∈ B.io, σ[p.1]? = some (some p.2)
def StT (K : PySem.W.Frag) (B : Bx) (F H : Hp) (σ : L2.St) (τ : Env) (vs : List V) (ds : List D) : Prop :=
  ∃ f1 f2, Sl K B.ca F H τ σ f1 ∧ RepOs K B.ca F H ds vs f2 ∧ Wd B F H (fun b => f1 b + f2 b) ∧ IoOk B σ
theorem Wd.less {B : Bx} {F H : Hp} {f g : Ct} (w : Wd B F H f) (h : ∀ b, g b ≤ f b) : Wd B F H g :=
  ⟨fun a => Nat.le_trans (h a) (w.nd a), fun a q => w.dF a (Nat.lt_of_lt_of_le q (h a)), fun a q => w.dR a (Nat.lt_of_lt_of_le q (h a)), w.sF, w.sR, w.s0, w.fr⟩
theorem same_upd {H : Hp} {p : Addr} {o : HO} (h : H p = none) : Same H (upd H p o) := fun b x e => by
  rw [upd_ne (ne_of_none e h)]
  exact e
theorem Wd.frozen {B : Bx} {F H : Hp} {f : Ct} {p : Addr} {o : HO} (w : Wd B F H f) (hp : H p = none) : Wd B (upd F p o) (upd H p o) (fun a => if a = p then 0 else f a) := by
  have hF : F p = none := by
    cases e : F p with
    | none => rfl
    | some x => rw [w.sF _ _ e] at hp; cases hp
  have hR : B.R p = none := by
    cases e : B.R p with
    | none => rfl
    | some x => rw [w.sR _ _ e] at hp; cases hp
  refine ⟨fun a => ?_, fun a q => ?_, fun a q => ?_, fun b x e => ?_, fun b x e => ?_, fun b x e => ?_, fun a q => ?_⟩
  · show (if a = p then 0 else f a) ≤ 1
    split
    · omega
    · exact w.nd a
  · have q : 0 < (if a = p then 0 else f a) := q
    split at q
    · omega
    · rw [upd_ne (by assumption)]; exact w.dF a q
  · have q : 0 < (if a = p then 0 else f a) := q
    split at q
    · omega
    · exact w.dR a q
  · by_cases h : b = p
    · subst h; rw [upd_same] at e ⊢; exact e
    · rw [upd_ne h] at e ⊢; exact w.sF b x e
  · rw [upd_ne (ne_of_none (w.sR b x e) hp)]; exact w.sR b x e
  · rw [upd_ne (ne_of_none (w.s0 b x e) hF)]; exact w.s0 b x e
  · by_cases h : a = p
    · subst h; exact .inr hR
    · rw [upd_ne h] at q; exact w.fr a q
theorem Wd.owned {B : Bx} {F H : Hp} {f : Ct} {p : Addr} {o : HO} (w : Wd B F H f) (hp : H p = none) (hf : f p = 0) : Wd B F (upd H p o) (fun a => (if a = p then 1 else 0) + f a) := by
  have hF : F p = none := by
    cases e : F p with
    | none => rfl
    | some x => rw [w.sF _ _ e] at hp; cases hp
  have hR : B.R p = none := by
    cases e : B.R p with
    | none => rfl
    | some x => rw [w.sR _ _ e] at hp; cases hp
  refine ⟨fun a => ?_, fun a q => ?_, fun a q => ?_, fun b x e => ?_, fun b x e => ?_, w.s0, w.fr⟩
  · show (if a = p then 1 else 0) + f a ≤ 1
    split
    · rename_i h; rw [h, hf]; omega
    · have := w.nd a; omega
  · have q : 0 < (if a = p then 1 else 0) + f a := q
    split at q
    · rename_i h; rw [h]; exact hF
    · exact w.dF a (by omega)
  · have q : 0 < (if a = p then 1 else 0) + f a := q
    split at q
    · rename_i h; rw [h]; exact hR
    · exact w.dR a (by omega)
  · rw [upd_ne (ne_of_none (w.sF b x e) hp)]; exact w.sF b x e
  · rw [upd_ne (ne_of_none (w.sR b x e) hp)]; exact w.sR b x e
def grow (F H : Hp) (f : Ct) : Hp := fun a => if 0 < f a then H a else F a
theorem same_grow {B : Bx} {F H : Hp} {f g : Ct} (w : Wd B F H f) (h : ∀ b, g b ≤ f b) : Same F (grow F H g) := fun b x e => by
  unfold grow
  split
  · rename_i q; rw [w.dF b (Nat.lt_of_lt_of_le q (h b))] at e; cases e
  · exact e
theorem Wd.give {B : Bx} {F H : Hp} {f g r : Ct} (w : Wd B F H f) (h : ∀ b, f b = g b + r b) : Wd B (grow F H g) H r := by
  refine ⟨fun a => by have := w.nd a; have := h a; omega, fun a q => ?_, fun a q => w.dR a (by rw [h]; omega), fun b x e => ?_, w.sR, fun b x e => (same_grow w fun b => by rw [h]; omega) b x (w.s0 b x e), fun a q => ?_⟩
  · unfold grow
    have := w.nd a; have := h a
    rw [if_neg (by omega)]
    exact w.dF a (by omega)
  · unfold grow at e
    split at e
    · exact e
    · exact w.sF b x e
  · unfold grow at q
    split at q
    · exact .inr (w.dR a (by rw [h]; omega))
    · exact w.fr a q
section
variable {K : PySem.W.Frag} {B : Bx} {F H : Hp} {σ : L2.St} {τ : Env} {vs us : List V} {ds es : List D} {v : V} {d : D}
theorem StT.push (s : StT K B F H σ τ vs ds) (h : Rep K B.ca F d v) : StT K B F H σ τ (v :: vs) (d :: ds) := by
  obtain ⟨f1, f2, a, b, w, io⟩ := s
  exact ⟨f1, f2, a, ⟨v, vs, _, f2, rfl, h.o, b, fun _ => by omega⟩, w, io⟩
theorem StT.pop (s : StT K B F H σ τ (v :: vs) (d :: ds)) : StT K B F H σ τ vs ds := by
  obtain ⟨f1, f2, a, ⟨_, _, g1, g2, e, _, b, q⟩, w, io⟩ := s
  cases e
  exact ⟨f1, g2, a, b, w.less fun b => by show f1 b + g2 b ≤ f1 b + f2 b; rw [q]; omega, io⟩
theorem StT.pops (s : StT K B F H σ τ (us ++ vs) (es ++ ds)) (hl : us.length = es.length) : StT K B F H σ τ vs ds := by
  obtain ⟨f1, f2, a, b, w, io⟩ := s
  obtain ⟨g1, g2, _, b, q⟩ := b.split' hl
  exact ⟨f1, g2, a, b, w.less fun b => by show f1 b + g2 b ≤ f1 b + f2 b; rw [q]; omega, io⟩
theorem StT.top (s : StT K B F H σ τ (v :: vs) (d :: ds)) : ∃ f, RepO K B.ca F H d v f := by
  obtain ⟨f1, f2, a, ⟨_, _, g1, g2, e, h, b, q⟩, w, io⟩ := s
  cases e
  exact ⟨_, h⟩
theorem StT.tops (s : StT K B F H σ τ (us ++ vs) (es ++ ds)) (hl : us.length = es.length) : ∃ f, RepOs K B.ca F H es us f := by
  obtain ⟨f1, f2, a, b, w, io⟩ := s
  obtain ⟨g1, g2, h, b, q⟩ := b.split' hl
  exact ⟨_, h⟩
theorem StT.topF (s : StT K B F H σ τ (v :: vs) (d :: ds)) (h : isFz d = true) : Rep K B.ca F d v := by
  obtain ⟨f, q⟩ := s.top
  exact ((repO_fz h).mp q).1
theorem StT.swap (s : StT K B F H σ τ (us ++ v :: vs) (es ++ d :: ds)) (hl : us.length = es.length) : StT K B F H σ τ (v :: us ++ vs) (d :: es ++ ds) := by
  obtain ⟨f1, f2, a, b, w, io⟩ := s
  obtain ⟨g1, g2, b1, ⟨_, _, g3, g4, e, b2, b3, q2⟩, q⟩ := b.split' hl
  cases e
  exact ⟨f1, f2, a, ⟨v, us ++ vs, g3, _, rfl, b2, b1.append b3, fun b => by rw [q, q2]; omega⟩, w, io⟩
theorem StT.same (s : StT K B F H σ τ vs ds) : Same F H := by
  obtain ⟨f1, f2, a, b, w, io⟩ := s
  exact w.sF
theorem StT.get {i : Nat} (s : StT K B F H σ τ vs ds) (e : τ[i]? = some (some d)) : ∃ v f, σ[i]? = some (some v) ∧ RepO K B.ca F H d v f := by
  obtain ⟨f1, f2, a, b, w, io⟩ := s
  exact a.get e
theorem StT.take {i : Nat} (s : StT K B F H σ τ vs ds) (e : τ[i]? = some (some d)) : ∃ v, σ[i]? = some (some v) ∧ StT K B F H σ (τ.set i none) (v :: vs) (d :: ds) := by
  obtain ⟨f1, f2, a, b, w, io⟩ := s
  obtain ⟨v, g1, g2, e1, h1, h2, q⟩ := a.take e
  refine ⟨v, e1, g2, fun b => g1 b + f2 b, h2, ⟨v, vs, g1, f2, rfl, h1, b, fun _ => rfl⟩, ?_, io⟩
  have e2 : (fun b => g2 b + (g1 b + f2 b)) = fun b => f1 b + f2 b := funext fun b => by rw [q]; omega
  rw [e2]; exact w
def ioFree (B : Bx) (i : Nat) : Prop := ∀ p ∈ B.io, p.1 ≠ i
theorem StT.put {i : Nat} (s : StT K B F H σ τ (v :: vs) (d :: ds)) (hi : i < τ.length) (hf : ioFree B i) : StT K B F H (σ.set i (some v)) (τ.set i (some d)) vs ds := by
  obtain ⟨f1, f2, a, ⟨_, _, g1, g2, e, h, b, q⟩, w, io⟩ := s
  cases e
  obtain ⟨f3, k1, k2⟩ := a.put hi h
  refine ⟨f3, g2, k1, b, w.less fun b => by show f3 b + g2 b ≤ f1 b + f2 b; have := k2 b; rw [q]; omega, fun p hp => ?_⟩
  rw [List.getElem?_set_ne (Ne.symm (hf p hp))]
  exact io p hp
theorem StT.putBack {i : Nat} (s : StT K B F H σ τ (v :: vs) (d :: ds)) (hi : i < τ.length) (hv : σ[i]? = some (some v)) : StT K B F H σ (τ.set i (some d)) vs ds := by
  obtain ⟨f1, f2, a, ⟨_, _, g1, g2, e, h, b, q⟩, w, io⟩ := s
  cases e
  obtain ⟨f3, k1, k2⟩ := a.put hi h
  have e1 : σ.set i (some v) = σ := by
    apply List.ext_getElem?
    intro j
    rw [List.getElem?_set]
    split
    · rename_i q; subst q; split
      · exact hv.symm
      · rename_i hl; rw [List.getElem?_eq_none (by omega)]
    · rfl
  rw [e1] at k1
  exact ⟨f3, g2, k1, b, w.less fun b => by show f3 b + g2 b ≤ f1 b + f2 b; have := k2 b; rw [q]; omega, io⟩
theorem StT.forget {i : Nat} (s : StT K B F H σ τ vs ds) : StT K B F H σ (τ.set i none) vs ds := by
  obtain ⟨f1, f2, a, b, w, io⟩ := s
  obtain ⟨g, k, q⟩ := a.drop (i := i)
  exact ⟨g, f2, k, b, w.less fun b => by show g b + f2 b ≤ f1 b + f2 b; have := q b; omega, io⟩
theorem StT.freeze (s : StT K B F H σ τ (us ++ vs) (es ++ ds)) (hl : us.length = es.length) : ∃ F', Same F F' ∧ RepL K B.ca F' (freezeL es) us ∧ StT K B F' H σ τ vs ds := by
  obtain ⟨f1, f2, a, b, w, io⟩ := s
  obtain ⟨g1, g2, b1, b2, q⟩ := b.split' hl
  have le : ∀ b, g1 b ≤ f1 b + f2 b := fun b => by rw [q]; omega
  have sm : Same F (grow F H g1) := same_grow w le
  refine ⟨grow F H g1, sm, RepOs.fz sm _ _ _ (fun a h => by unfold grow; rw [if_pos h]) b1, f1, g2, a.mono sm fun _ _ => rfl, RepOs.mono sm _ _ _ (fun _ _ => rfl) b2, ?_, io⟩
  exact w.give (g := g1) (r := fun b => f1 b + g2 b) fun b => by show f1 b + f2 b = g1 b + (f1 b + g2 b); rw [q]; omega
theorem StT.new (s : StT K B F H σ τ vs ds) {p : Addr} {o : HO} (hp : H p = none) : StT K B (upd F p o) (upd H p o) σ τ vs ds ∧ Same F (upd F p o) := by
  obtain ⟨f1, f2, a, b, w, io⟩ := s
  have hF : F p = none := by
    cases e : F p with
    | none => rfl
    | some x => rw [w.sF _ _ e] at hp; cases hp
  have sm : Same F (upd F p o) := Bn.same_upd hF
  have k1 : ∀ x, 0 < f1 x → upd H p o x = H x := fun x hx => upd_ne fun e => a.there x hx (e ▸ hp)
  have k2 : ∀ x, 0 < f2 x → upd H p o x = H x := fun x hx => upd_ne fun e => b.there _ _ _ x hx (e ▸ hp)
  refine ⟨⟨f1, f2, a.mono sm k1, RepOs.mono sm _ _ _ k2 b, (w.frozen hp).less fun x => ?_, io⟩, sm⟩
  show f1 x + f2 x ≤ if x = p then 0 else f1 x + f2 x
  split
  · rename_i e
    have h1 : ¬ 0 < f1 x := fun h => a.there x h (e ▸ hp)
    have h2 : ¬ 0 < f2 x := fun h => b.there _ _ _ x h (e ▸ hp)
    omega
  · omega
theorem StT.newTup (s : StT K B F H σ τ vs ds) {p : Addr} (hp : H p = none) (h : RepL K B.ca F es us) : StT K B (upd F p (.tup us)) (upd H p (.tup us)) σ τ (.ref p :: vs) (.tup es :: ds) := by
  obtain ⟨s', sm⟩ := s.new (o := .tup us) hp
  exact s'.push ⟨p, us, rfl, .inl (.inl upd_same), RepL.mono sm _ _ h⟩
theorem StT.newLst (s : StT K B F H σ τ (us ++ vs) (es ++ ds)) (hl : us.length = es.length) {p : Addr} (hp : H p = none) : StT K B F (upd H p (.lst us)) σ τ (.ref p :: vs) (.lst true es :: ds) := by
  obtain ⟨f1, f2, a, b, w, io⟩ := s
  obtain ⟨g1, g2, b1, b2, q⟩ := b.split' hl
  have k1 : ∀ x, 0 < f1 x → upd H p (.lst us) x = H x := fun x hx => upd_ne fun e => a.there x hx (e ▸ hp)
  have k2 : ∀ x, 0 < g1 x → upd H p (.lst us) x = H x := fun x hx => upd_ne fun e => b1.there _ _ _ x hx (e ▸ hp)
  have k3 : ∀ x, 0 < g2 x → upd H p (.lst us) x = H x := fun x hx => upd_ne fun e => b2.there _ _ _ x hx (e ▸ hp)
  have z : f1 p + f2 p = 0 := by
    have h1 : ¬ 0 < f1 p := fun h => a.there p h hp
    have h2 : ¬ 0 < f2 p := fun h => b.there _ _ _ p h hp
    omega
  refine ⟨f1, fun b => ((if b = p then 1 else 0) + g1 b) + g2 b, a.mono (Same.refl _) k1, ⟨.ref p, vs, fun b => (if b = p then 1 else 0) + g1 b, g2, rfl, ⟨p, us, g1, rfl, upd_same, RepOs.mono (Same.refl _) _ _ _ k2 b1, fun _ => rfl⟩, RepOs.mono (Same.refl _) _ _ _ k3 b2, fun _ => rfl⟩, ?_, io⟩
  have e : (fun b => f1 b + (((if b = p then 1 else 0) + g1 b) + g2 b)) = fun b => (if b = p then 1 else 0) + (f1 b + f2 b) := funext fun b => by rw [q]; omega
  rw [e]
  exact w.owned hp z
theorem StT.change {a : Addr} {xs ys : List V} {es' : List D} (s : StT K B F H σ τ (.ref a :: (us ++ vs)) (.lst true es :: (ds ++ es'))) (hl : us.length = ds.length) (hx : H a = some (.lst xs)) {es2 : List D}
    (k : ∀ g1 g2, RepOs K B.ca F H es xs g1 → RepOs K B.ca F H ds us g2 → ∃ g, RepOs K B.ca F H es2 ys g ∧ ∀ b, g b ≤ g1 b + g2 b) :
    StT K B F (upd H a (.lst ys)) σ τ (.ref a :: vs) (.lst true es2 :: es') := by
  obtain ⟨f1, f2, A, ⟨_, _, g1, g2, e, h, b, q⟩, w, io⟩ := s
  cases e
  obtain ⟨a', xs', g3, e', hx', h3, q3⟩ := h
  cases e'
  rw [hx] at hx'; cases hx'
  obtain ⟨g4, g5, b1, b2, q4⟩ := b.split' hl
  obtain ⟨g, hg, hle⟩ := k g3 g4 h3 b1
  have one := w.nd a
  have tot : ∀ b, f1 b + f2 b = f1 b + ((if b = a then 1 else 0) + g3 b + (g4 b + g5 b)) := fun b => by rw [q, q3, q4]
  have za : f1 a = 0 ∧ g3 a = 0 ∧ g4 a = 0 ∧ g5 a = 0 := by
    have := tot a
    rw [if_pos rfl] at this
    omega
  have off : ∀ {φ : Ct}, φ a = 0 → ∀ x, 0 < φ x → upd H a (.lst ys) x = H x := fun {φ} hz x hx => upd_ne fun e => by rw [e, hz] at hx; omega
  have zg : g a = 0 := by have := hle a; omega
  refine ⟨f1, fun b => ((if b = a then 1 else 0) + g b) + g5 b, A.mono (Same.refl _) (off za.1), ⟨.ref a, vs, fun b => (if b = a then 1 else 0) + g b, g5, rfl, ⟨a, ys, g, rfl, upd_same, RepOs.mono (Same.refl _) _ _ _ (off zg) hg, fun _ => rfl⟩,
    RepOs.mono (Same.refl _) _ _ _ (off za.2.2.2) b2, fun _ => rfl⟩, ?_, io⟩
  have w2 : Wd B F H (fun b => f1 b + (((if b = a then 1 else 0) + g b) + g5 b)) := w.less fun b => by
    show f1 b + (((if b = a then 1 else 0) + g b) + g5 b) ≤ f1 b + f2 b
    have := tot b; have := hle b; omega
  have fa : F a = none := w.dF a (by have := tot a; rw [if_pos rfl] at this; show 0 < f1 a + f2 a; omega)
  have ra : B.R a = none := w.dR a (by have := tot a; rw [if_pos rfl] at this; show 0 < f1 a + f2 a; omega)
  exact ⟨w2.nd, w2.dF, w2.dR, fun b x e => by rw [upd_ne (ne_of_none e fa)]; exact w.sF b x e, fun b x e => by rw [upd_ne (ne_of_none e ra)]; exact w.sR b x e, w.s0, w.fr⟩
theorem StT.called {F' H' : Hp} {g : Ct} (s : StT K B F H σ τ vs ds) (h1 : Same F F') (h2 : Same F' H') (h3 : Same H H') (hv : RepO K B.ca F' H' d v g) (h4 : ∀ a, g a ≤ 1) (h5 : ∀ a, 0 < g a → F' a = none ∧ H a = none)
    (h6 : ∀ a, F' a ≠ none → F a ≠ none ∨ H a = none) : StT K B F' H' σ τ (v :: vs) (d :: ds) := by
  obtain ⟨f1, f2, a, b, w, io⟩ := s
  have k : ∀ x, H x ≠ none → H' x = H x := fun x hx => by
    cases e : H x with
    | none => exact absurd e hx
    | some o => exact h3 _ _ e
  have t1 : ∀ x, 0 < f1 x → H x ≠ none := a.there
  have t2 : ∀ x, 0 < f2 x → H x ≠ none := b.there _ _ _
  refine ⟨f1, fun b => g b + f2 b, a.mono h1 fun x hx => k x (t1 x hx), ⟨v, vs, g, f2, rfl, hv, RepOs.mono h1 _ _ _ (fun x hx => k x (t2 x hx)) b, fun _ => rfl⟩, ?_, io⟩
  have split : ∀ x, 0 < f1 x + (g x + f2 x) → (0 < g x ∧ f1 x = 0 ∧ f2 x = 0) ∨ (g x = 0 ∧ 0 < f1 x + f2 x) := fun x hx => by
    by_cases q : 0 < g x
    · have hn := (h5 x q).2
      have : ¬ 0 < f1 x := fun h => t1 x h hn
      have : ¬ 0 < f2 x := fun h => t2 x h hn
      exact .inl ⟨q, by omega, by omega⟩
    · exact .inr ⟨by omega, by omega⟩
  have old : ∀ x, 0 < f1 x + f2 x → H x ≠ none := fun x hx => by
    by_cases q : 0 < f1 x
    · exact t1 x q
    · exact t2 x (by omega)
  refine ⟨fun x => ?_, fun x hx => ?_, fun x hx => ?_, h2, w.sR.trans h3, w.s0.trans h1, fun x hx => ?_⟩
  · show f1 x + (g x + f2 x) ≤ 1
    by_cases q : 0 < f1 x + (g x + f2 x)
    · rcases split x q with ⟨_, e1, e2⟩ | ⟨e1, _⟩
      · have := h4 x; omega
      · have := w.nd x; omega
    · omega
  · rcases split x hx with ⟨e0, _⟩ | ⟨_, e0⟩
    · exact (h5 x e0).1
    · have hF := w.dF x e0
      cases e : F' x with
      | none => rfl
      | some o =>
        rcases h6 x (by rw [e]; exact fun z => by cases z) with z | z
        · exact absurd hF z
        · exact absurd z (old x e0)
  · rcases split x hx with ⟨e0, _⟩ | ⟨_, e0⟩
    · cases e : B.R x with
      | none => rfl
      | some o => have z := (h5 x e0).2; rw [w.sR _ _ e] at z; cases z
    · exact w.dR x e0
  · rcases h6 x hx with z | z
    · exact w.fr x z
    · refine .inr ?_
      cases e : B.R x with
      | none => rfl
      | some o => rw [w.sR _ _ e] at z; cases z
theorem StT.grown {H' : Hp} (s : StT K B F H σ τ vs ds) (h : Same H H') : StT K B F H' σ τ vs ds := by
  obtain ⟨f1, f2, a, b, w, io⟩ := s
  have k : ∀ x, H x ≠ none → H' x = H x := fun x hx => by
    cases e : H x with
    | none => exact absurd e hx
    | some o => exact h _ _ e
  exact ⟨f1, f2, a.mono (Same.refl _) fun x hx => k x (a.there x hx), RepOs.mono (Same.refl _) _ _ _ (fun x hx => k x (b.there _ _ _ x hx)) b, ⟨w.nd, w.dF, w.dR, w.sF.trans h, w.sR.trans h, w.s0, w.fr⟩, io⟩
end
end Bn
namespace Bn
open PySem PySem.Spec PyProof.Rows L2
inductive R (α : Type) where
  | ok (a : α) (τ : Env) | ex (c : Str) (τ : Env) | bad
inductive SR where
  | nx (τ : Env) | rt (d : D) (τ : Env) | bk (τ : Env) | ct (τ : Env) | ex (c : Str) (τ : Env) | bad
inductive CR where
  | ok (d : D) | ex (c : Str) | bad
abbrev ME := Env → R D
abbrev MZ := Env → Option D
abbrev MT := Env → R Bool
abbrev MA := Env → R (List D)
abbrev MS := Env → SR
def R.bind {α β : Type} : R α → (α → Env → R β) → R β
  | .ok a τ, k => k a τ
  | .ex c τ, _ => .ex c τ
  | .bad, _ => .bad
def post {α : Type} (y : α → Env → Prop) (x : Str → Env → Prop) : R α → Prop
  | .ok a τ => y a τ
  | .ex c τ => x c τ
  | .bad => False
theorem post_bind {α β : Type} {y : β → Env → Prop} {x : Str → Env → Prop} {r : R α} {k : α → Env → R β} (h : post y x (r.bind k)) : post (fun a τ => post y x (k a τ)) x r := by
  cases r <;> exact h
theorem post_imp {α : Type} {y y' : α → Env → Prop} {x x' : Str → Env → Prop} {r : R α} (h : post y x r) (hy : ∀ a τ, y a τ → y' a τ) (hx : ∀ c τ, x c τ → x' c τ) : post y' x' r := by
  cases r with
  | ok a τ => exact hy _ _ h
  | ex c τ => exact hx _ _ h
  | bad => exact h
section
variable {X : Cx}
theorem PE.imp {e : Expr} {t t' : TE} (h : PE X e t) (k : ∀ σ H Q, t' σ H Q → t σ H Q) : PE X e t' := ⟨fun p s σ H Q I q => h.run p s σ H Q I (k _ _ _ q)⟩
theorem PT.imp {e : Expr} {t t' : TT} (h : PT X e t) (k : ∀ σ H Q, t' σ H Q → t σ H Q) : PT X e t' := ⟨fun p s σ H Q I q => h.run p s σ H Q I (k _ _ _ q)⟩
theorem PW.imp {e : Expr} {t t' : TT} (h : PW X e t) (k : ∀ σ H Q, t' σ H Q → t σ H Q) : PW X e t' := ⟨fun w p s σ H Q I q => h.run w p s σ H Q I (k _ _ _ q)⟩
theorem PA.imp {e : List Expr} {t t' : TA} (h : PA X e t) (k : ∀ σ H Q, t' σ H Q → t σ H Q) : PA X e t' := ⟨fun z p s σ H Q I q => h.run z p s σ H Q I (k _ _ _ q)⟩
theorem PS.imp {e : Stmt} {t t' : TS} (h : PS X e t) (k : ∀ D σ H, t' D σ H → t D σ H) : PS X e t' := ⟨fun p s σ H D I q => h.run p s σ H D I (k _ _ _ q)⟩
theorem PSs.imp {e : List Stmt} {t t' : TS} (h : PSs X e t) (k : ∀ D σ H, t' D σ H → t D σ H) : PSs X e t' := ⟨fun p s σ H D I q => h.run p s σ H D I (k _ _ _ q)⟩
theorem PG.imp {e : Expr} {t t' : TG} (h : PG X e t) (k : ∀ v σ H Q, t' v σ H Q → t v σ H Q) : PG X e t' := ⟨fun p s σ H v u Q I r q => h.run p s σ H v u Q I r (k _ _ _ _ q)⟩
theorem PGs.imp {e : List Expr} {t t' : TGs} (h : PGs X e t) (k : ∀ v σ H Q, t' v σ H Q → t v σ H Q) : PGs X e t' := ⟨fun p s σ H v u Q I r q => h.run p s σ H v u Q I r (k _ _ _ _ q)⟩
end
section
variable (K : PySem.W.Frag) (B : Bx) (W : WX)
def exW (σ : L2.St) (vs : List V) (ds : List D) : Str → Env → Prop := fun c τ' => ∀ F' H', StT K B F' H' σ τ' vs ds → W (.ref (B.ca c)) none σ H'
def rdE (m : ME) : TE := fun σ H Q => ∃ F τ vs ds, StT K B F H σ τ vs ds ∧ post (fun d τ' => ∀ v F' H', StT K B F' H' σ τ' (v :: vs) (d :: ds) → Q v H') (exW K B W σ vs ds) (m τ)
def rdA (m : MA) : TA := fun σ H Q => ∃ F τ vs ds, StT K B F H σ τ vs ds ∧ post (fun es τ' => ∀ us F' H', us.length = es.length → StT K B F' H' σ τ' (us ++ vs) (es ++ ds) → Q us H') (exW K B W σ vs ds) (m τ)
def rdT (m : MT) : TT := fun σ H Q => ∃ F τ vs ds, StT K B F H σ τ vs ds ∧ post (fun b τ' => ∀ F' H', StT K B F' H' σ τ' vs ds → Q b H') (exW K B W σ vs ds) (m τ)
def rdZ (m : MZ) : TE := fun σ H Q => ∃ F τ vs ds, StT K B F H σ τ vs ds ∧ ∃ d, m τ = some d ∧ ∀ v f, RepO K B.ca F H d v f → Q v H
def postS (vs : List V) (ds : List D) (D : Ends) : SR → Prop
  | .nx τ => ∀ σ F H, StT K B F H σ τ vs ds → D.nx σ H
  | .rt d τ => ∀ v σ F H, StT K B F H σ τ (v :: vs) (d :: ds) → D.rt v H
  | .bk τ => ∀ σ F H, StT K B F H σ τ vs ds → D.bk σ H
  | .ct τ => ∀ σ F H, StT K B F H σ τ vs ds → D.ct σ H
  | .ex c τ => ∀ σ F H, StT K B F H σ τ vs ds → W (.ref (B.ca c)) none σ H
  | .bad => False
def rdS (m : MS) : TS := fun D σ H => ∃ F τ vs ds, StT K B F H σ τ vs ds ∧ postS K B W vs ds D (m τ)
def rdG (sl : List Nat) (g : D → Env → Option Env) : TG := fun v σ H Q => ∃ F τ vs ds d, StT K B F H σ τ (v :: vs) (d :: ds) ∧ ∃ τ', g d τ = some τ' ∧
  ∀ σ' F' H', StT K B F' H' σ' τ' vs ds → σ'.length = σ.length → (∀ j, j ∉ sl → σ'[j]? = σ[j]?) → Q σ' H'
end
def zVar (i : Nat) : MZ := fun τ => τ.getD i none
def zC (d : D) : MZ := fun _ => some d
theorem getD_some {τ : Env} {i : Nat} {d : D} (h : τ.getD i none = some d) : τ[i]? = some (some d) := by
  rw [List.getD_eq_getElem?_getD] at h
  cases e : τ[i]? with
  | none => rw [e] at h; cases h
  | some x => rw [e] at h; exact congrArg some h
section
variable {X : Cx} {B : Bx} {W : WX}
theorem z_var {i : Nat} {e : Expr} (h : PE X e (tVar i)) : PE X e (rdZ X.K B (zVar i)) := PE.imp h fun σ H Q ⟨F, τ, vs, ds, s, d, e, k⟩ => by
  obtain ⟨v, f, h1, h2⟩ := s.get (getD_some e)
  exact ⟨v, h1, k v f h2⟩
theorem z_c {e : Expr} {d : D} {v : V} (h : PE X e (tC v)) (hd : ∀ F, Rep X.K B.ca F d v) : PE X e (rdZ X.K B (zC d)) := PE.imp h fun σ H Q ⟨F, τ, vs, ds, s, d', e, k⟩ => by
  cases (show some d = some d' from e)
  exact k v _ (hd F).o
theorem z_int {i j pos} : PE X (.Constant (.int i) j pos) (rdZ X.K B (zC (.int i))) := z_c pe_int fun _ => rfl
theorem z_bl {b j pos} : PE X (.Constant (.bool b) j pos) (rdZ X.K B (zC (.bl b))) := z_c pe_bl fun _ => rfl
theorem z_str {x j pos} : PE X (.Constant (.str x) j pos) (rdZ X.K B (zC (.str x))) := z_c pe_str fun _ => rfl
theorem z_ty {x : Str} {n : String} {pos : Pos} (hg : Gl X x) (hm : X.mg x = none) (hv : bootBuiltins x = some (.type n)) (hn : x ≠ "__name__" := by decide) (hd : (x == ("__debug__" : Str)) = false := by decide) : PE X (.Name x pos) (rdZ X.K B (zC (.ty n))) :=
  z_c (pe_bltn (v := .ty n) hg hm hv rfl hn hd) fun _ => rfl
def eZ (m : MZ) : ME := fun τ => match m τ with
  | some d => if isFz d = true then .ok d τ else .bad
  | none => .bad
theorem e_z {e : Expr} {m : MZ} (h : PE X e (rdZ X.K B m)) : PE X e (rdE X.K B W (eZ m)) := PE.imp h fun σ H Q ⟨F, τ, vs, ds, s, k⟩ => by
  unfold eZ at k
  cases e : m τ with
  | none => rw [e] at k; exact k.elim
  | some d =>
    rw [e] at k
    by_cases z : isFz d = true
    · simp only [z, if_true] at k
      exact ⟨F, τ, vs, ds, s, d, e, fun v f r => k v F H (s.push ((repO_fz z).mp r).1)⟩
    · simp only [z] at k
      exact k.elim
def eVar (i : Nat) : ME := fun τ => match τ.getD i none with
  | some d => if isFz d = true then .ok d τ else .ok (freeze d) (τ.set i (some (freeze d)))
  | none => .bad
theorem e_var {i : Nat} {e : Expr} (h : PE X e (tVar i)) : PE X e (rdE X.K B W (eVar i)) := PE.imp h fun σ H Q ⟨F, τ, vs, ds, s, k⟩ => by
  unfold eVar at k
  cases e : τ.getD i none with
  | none => rw [e] at k; exact k.elim
  | some d =>
    rw [e] at k
    have e' := getD_some e
    by_cases z : isFz d = true
    · simp only [z, if_true] at k
      obtain ⟨v, f, h1, h2⟩ := s.get e'
      exact ⟨v, h1, k v F H (s.push ((repO_fz z).mp h2).1)⟩
    · simp only [z] at k
      obtain ⟨v, h1, s1⟩ := s.take e'
      obtain ⟨F', sm, ⟨_, _, e2, r, _⟩, s2⟩ := StT.freeze (us := [v]) (es := [d]) s1 rfl
      cases e2
      have s3 := StT.putBack (s2.push r) (i := i) (by rw [List.length_set]; exact (List.getElem?_eq_some_iff.mp e').1) h1
      rw [List.set_set] at s3
      exact ⟨v, h1, k v F' H (s3.push r)⟩
def eMv (i : Nat) : ME := fun τ => match τ.getD i none with
  | some d => .ok d (τ.set i none)
  | none => .bad
theorem e_mv {i : Nat} {e : Expr} (h : PE X e (tVar i)) : PE X e (rdE X.K B W (eMv i)) := PE.imp h fun σ H Q ⟨F, τ, vs, ds, s, k⟩ => by
  unfold eMv at k
  cases e : τ.getD i none with
  | none => rw [e] at k; exact k.elim
  | some d =>
    rw [e] at k
    obtain ⟨v, h1, s1⟩ := s.take (getD_some e)
    exact ⟨v, h1, k v F H s1⟩
def OpS (K : PySem.W.Frag) (r : R2) (g : D → D → Option D) : Prop := ∀ (ca : Str → Addr) (F H : Hp) (x y : V) (a b d : D) (f1 f2 : Ct) (Q : VK), Same F H → RepO K ca F H a x f1 → RepO K ca F H b y f2 → g a b = some d → (∀ v f, RepO K ca F H d v f → Q v H) → r x y H Q
def UnS (K : PySem.W.Frag) (r : V → Hp → VK → Prop) (g : D → Option D) : Prop := ∀ (ca : Str → Addr) (F H : Hp) (x : V) (a d : D) (f1 : Ct) (Q : VK), Same F H → RepO K ca F H a x f1 → g a = some d → (∀ v f, RepO K ca F H d v f → Q v H) → r x H Q
def CallS (K : PySem.W.Frag) (r : List V → Hp → VK → Prop) (g : List D → Option D) : Prop := ∀ (ca : Str → Addr) (F H : Hp) (xs : List V) (as : List D) (d : D) (f1 : Ct) (Q : VK), Same F H → RepOs K ca F H as xs f1 → g as = some d → (∀ v f, RepO K ca F H d v f → Q v H) → r xs H Q
def z2 (g : D → D → Option D) (m n : MZ) : MZ := fun τ => (m τ).bind fun a => (n τ).bind fun b => g a b
def z1 (g : D → Option D) (m : MZ) : MZ := fun τ => (m τ).bind g
def ofO (o : Option D) (τ : Env) : R D := match o with
  | some d => if isFz d = true then .ok d τ else .bad
  | none => .bad
def e2 (g : D → D → Option D) (m n : ME) : ME := fun τ => (m τ).bind fun a τ1 => (n τ1).bind fun b τ2 => ofO (g a b) τ2
def e1 (g : D → Option D) (m : ME) : ME := fun τ => (m τ).bind fun a τ1 => ofO (g a) τ1
def eC (g : List D → Option D) (m : MA) : ME := fun τ => (m τ).bind fun a τ1 => ofO (g a) τ1
theorem post_ofO {y : D → Env → Prop} {x : Str → Env → Prop} {o : Option D} {τ : Env} (h : post y x (ofO o τ)) : ∃ d, o = some d ∧ isFz d = true ∧ y d τ := by
  unfold ofO at h
  cases o with
  | none => exact h.elim
  | some d =>
    by_cases z : isFz d = true
    · simp only [z, if_true] at h; exact ⟨d, rfl, z, h⟩
    · simp only [z] at h; exact h.elim
theorem bind_some {α β : Type} {o : Option α} {k : α → Option β} {d : β} (h : o.bind k = some d) : ∃ a, o = some a ∧ k a = some d := by
  cases o with
  | none => cases h
  | some a => exact ⟨a, rfl, h⟩
theorem imp2Z {r : R2} {g : D → D → Option D} {m n : MZ} (hs : OpS X.K r g) (σ : L2.St) (H : Hp) (Q : VK) (h : rdZ X.K B (z2 g m n) σ H Q) : tOp r (rdZ X.K B m) (rdZ X.K B n) σ H Q := by
  obtain ⟨F, τ, vs, ds, s, d, e, k⟩ := h
  obtain ⟨a, ea, e⟩ := bind_some e
  obtain ⟨b, eb, e⟩ := bind_some e
  exact ⟨F, τ, vs, ds, s, a, ea, fun x f1 hx => ⟨F, τ, vs, ds, s, b, eb, fun y f2 hy => hs _ _ _ _ _ _ _ _ _ _ _ s.same hx hy e k⟩⟩
theorem imp2E {r : R2} {g : D → D → Option D} {m n : ME} (hs : OpS X.K r g) (σ : L2.St) (H : Hp) (Q : VK) (h : rdE X.K B W (e2 g m n) σ H Q) : tOp r (rdE X.K B W m) (rdE X.K B W n) σ H Q := by
  obtain ⟨F, τ, vs, ds, s, p⟩ := h
  refine ⟨F, τ, vs, ds, s, post_imp (post_bind p) (fun a τ1 q x F1 H1 s1 => ⟨F1, τ1, _, _, s1, post_imp (post_bind q) (fun b τ2 q y F2 H2 s2 => ?_) fun c τ2 q F2 H2 s2 => q F2 H2 s2.pop⟩) fun _ _ q => q⟩
  obtain ⟨d, e, z, q⟩ := post_ofO q
  obtain ⟨f2, hy⟩ := s2.top
  obtain ⟨f1, hx⟩ := s2.pop.top
  exact hs _ _ _ _ _ _ _ _ _ _ _ s2.same hx hy e fun v f hv => q v F2 H2 (s2.pop.pop.push ((repO_fz z).mp hv).1)
theorem imp1Z {r : V → Hp → VK → Prop} {g : D → Option D} {m : MZ} (hs : UnS X.K r g) (σ : L2.St) (H : Hp) (Q : VK) (h : rdZ X.K B (z1 g m) σ H Q) : tUn r (rdZ X.K B m) σ H Q := by
  obtain ⟨F, τ, vs, ds, s, d, e, k⟩ := h
  obtain ⟨a, ea, e⟩ := bind_some e
  exact ⟨F, τ, vs, ds, s, a, ea, fun x f1 hx => hs _ _ _ _ _ _ _ _ s.same hx e k⟩
theorem imp1E {r : V → Hp → VK → Prop} {g : D → Option D} {m : ME} (hs : UnS X.K r g) (σ : L2.St) (H : Hp) (Q : VK) (h : rdE X.K B W (e1 g m) σ H Q) : tUn r (rdE X.K B W m) σ H Q := by
  obtain ⟨F, τ, vs, ds, s, p⟩ := h
  refine ⟨F, τ, vs, ds, s, post_imp (post_bind p) (fun a τ1 q x F1 H1 s1 => ?_) fun _ _ q => q⟩
  obtain ⟨d, e, z, q⟩ := post_ofO q
  obtain ⟨f1, hx⟩ := s1.top
  exact hs _ _ _ _ _ _ _ _ s1.same hx e fun v f hv => q v F1 H1 (s1.pop.push ((repO_fz z).mp hv).1)
theorem z_op {op : Operator} {a b : Expr} {pos : Pos} {r : R2} {g : D → D → Option D} {m n : MZ} (ho : OpR X (binaryOp op) r) (hs : OpS X.K r g) (ha : PE X a (rdZ X.K B m)) (hb : PE X b (rdZ X.K B n)) : PE X (.BinOp a op b pos) (rdZ X.K B (z2 g m n)) := PE.imp (pe_op ho ha hb) (imp2Z hs)
theorem e_op {op : Operator} {a b : Expr} {pos : Pos} {r : R2} {g : D → D → Option D} {m n : ME} (ho : OpR X (binaryOp op) r) (hs : OpS X.K r g) (ha : PE X a (rdE X.K B W m)) (hb : PE X b (rdE X.K B W n)) : PE X (.BinOp a op b pos) (rdE X.K B W (e2 g m n)) := PE.imp (pe_op ho ha hb) (imp2E hs)
theorem z_un {op : UnaryOp} {a : Expr} {pos : Pos} {r : V → Hp → VK → Prop} {g : D → Option D} {m : MZ} (ho : UnR X (unaryOp op) r) (hs : UnS X.K r g) (ha : PE X a (rdZ X.K B m)) : PE X (.UnaryOp op a pos) (rdZ X.K B (z1 g m)) := PE.imp (pe_un ho ha) (imp1Z hs)
theorem e_un {op : UnaryOp} {a : Expr} {pos : Pos} {r : V → Hp → VK → Prop} {g : D → Option D} {m : ME} (ho : UnR X (unaryOp op) r) (hs : UnS X.K r g) (ha : PE X a (rdE X.K B W m)) : PE X (.UnaryOp op a pos) (rdE X.K B W (e1 g m)) := PE.imp (pe_un ho ha) (imp1E hs)
theorem z_ix {a b : Expr} {pos : Pos} {r : R2} {g : D → D → Option D} {m n : MZ} (ho : IxR X r) (hs : OpS X.K r g) (ha : PE X a (rdZ X.K B m)) (hb : PE X b (rdZ X.K B n)) (hp : PlainIx b := by exact fun _ _ => rfl) : PE X (.Subscript a b pos) (rdZ X.K B (z2 g m n)) := PE.imp (pe_ix ho ha hb hp) (imp2Z hs)
theorem e_ix {a b : Expr} {pos : Pos} {r : R2} {g : D → D → Option D} {m n : ME} (ho : IxR X r) (hs : OpS X.K r g) (ha : PE X a (rdE X.K B W m)) (hb : PE X b (rdE X.K B W n)) (hp : PlainIx b := by exact fun _ _ => rfl) : PE X (.Subscript a b pos) (rdE X.K B W (e2 g m n)) := PE.imp (pe_ix ho ha hb hp) (imp2E hs)
def tE (m : ME) : MT := fun τ => (m τ).bind fun d τ1 => match d with
  | .bl b => .ok b τ1
  | _ => .bad
def tZ (m : MZ) : MT := fun τ => match m τ with
  | some (.bl b) => .ok b τ
  | _ => .bad
theorem impTE {m : ME} (σ : L2.St) (H : Hp) (Q : Bool → Hp → Prop) (h : rdT X.K B W (tE m) σ H Q) : rdE X.K B W m σ H fun x H' => ∃ k, x = .bl k ∧ Q k H' := by
  obtain ⟨F, τ, vs, ds, s, p⟩ := h
  refine ⟨F, τ, vs, ds, s, post_imp (post_bind p) (fun d τ1 q x F1 H1 s1 => ?_) fun _ _ q => q⟩
  cases d with
  | bl b => exact ⟨b, s1.topF rfl, q F1 H1 s1.pop⟩
  | _ => exact False.elim q
theorem impTZ {m : MZ} (σ : L2.St) (H : Hp) (Q : Bool → Hp → Prop) (h : rdT X.K B W (tZ m) σ H Q) : rdZ X.K B m σ H fun x H' => ∃ k, x = .bl k ∧ Q k H' := by
  obtain ⟨F, τ, vs, ds, s, p⟩ := h
  unfold tZ at p
  cases e : m τ with
  | none => rw [e] at p; exact False.elim p
  | some d =>
    rw [e] at p
    cases d with
    | bl b => exact ⟨F, τ, vs, ds, s, _, e, fun v f r => ⟨b, r.1, p F H s⟩⟩
    | _ => exact False.elim p
theorem t_valZ {e : Expr} {m : MZ} (h : PE X e (rdZ X.K B m)) (he : ∀ whole, isTrue e X.env whole = (do let v ← whole; standAt e.pos; holding [v] (truthy v)) := by intro _; rfl) : PT X e (rdT X.K B W (tZ m)) := PT.imp (pt_val h he) impTZ
theorem t_valE {e : Expr} {m : ME} (h : PE X e (rdE X.K B W m)) (he : ∀ whole, isTrue e X.env whole = (do let v ← whole; standAt e.pos; holding [v] (truthy v)) := by intro _; rfl) : PT X e (rdT X.K B W (tE m)) := PT.imp (pt_val h he) impTE
theorem t_cmpZ {op : CmpOp} {a b : Expr} {pos : Pos} {r : R2} {g : D → D → Option D} {m n : MZ} (ho : OpR X (compareOp op) r) (hs : OpS X.K r g) (ha : PE X a (rdZ X.K B m)) (hb : PE X b (rdZ X.K B n)) (hm : behindInMarks op b = false := by first | exact nomark _ | rfl) : PT X (.Compare a [op] [b] pos) (rdT X.K B W (tZ (z2 g m n))) :=
  PT.imp (pt_cmpR ho ha hb hm) fun σ H Q h => imp2Z hs σ H _ (impTZ σ H Q h)
theorem t_cmpE {op : CmpOp} {a b : Expr} {pos : Pos} {r : R2} {g : D → D → Option D} {m n : ME} (ho : OpR X (compareOp op) r) (hs : OpS X.K r g) (ha : PE X a (rdE X.K B W m)) (hb : PE X b (rdE X.K B W n)) (hm : behindInMarks op b = false := by first | exact nomark _ | rfl) : PT X (.Compare a [op] [b] pos) (rdT X.K B W (tE (e2 g m n))) :=
  PT.imp (pt_cmpR ho ha hb hm) fun σ H Q h => imp2E hs σ H _ (impTE σ H Q h)
def tAnd (a b : MT) : MT := fun τ => (a τ).bind fun x τ1 => if x = true then b τ1 else .ok false τ1
def tOr (a b : MT) : MT := fun τ => (a τ).bind fun x τ1 => if x = true then .ok true τ1 else b τ1
def tNot (a : MT) : MT := fun τ => (a τ).bind fun x τ1 => .ok (!x) τ1
theorem t_and1 {a : Expr} {pos : Pos} {m : MT} (ha : PT X a (rdT X.K B W m)) : PW X (.BoolOp .And [a] pos) (rdT X.K B W m) := pw_and1 ha
theorem t_or1 {a : Expr} {pos : Pos} {m : MT} (ha : PT X a (rdT X.K B W m)) : PW X (.BoolOp .Or [a] pos) (rdT X.K B W m) := pw_or1 ha
theorem t_and {a b : Expr} {r : List Expr} {pos : Pos} {m n : MT} (ha : PT X a (rdT X.K B W m)) (hb : PW X (.BoolOp .And (b :: r) pos) (rdT X.K B W n)) : PW X (.BoolOp .And (a :: b :: r) pos) (rdT X.K B W (tAnd m n)) := PW.imp (pw_and ha hb) fun σ H Q h => by
  obtain ⟨F, τ, vs, ds, s, p⟩ := h
  refine ⟨F, τ, vs, ds, s, post_imp (post_bind p) (fun b τ1 q F1 H1 s1 => ?_) fun _ _ q => q⟩
  cases b with
  | true => exact ⟨F1, τ1, vs, ds, s1, q⟩
  | false => exact q F1 H1 s1
theorem t_or {a b : Expr} {r : List Expr} {pos : Pos} {m n : MT} (ha : PT X a (rdT X.K B W m)) (hb : PW X (.BoolOp .Or (b :: r) pos) (rdT X.K B W n)) : PW X (.BoolOp .Or (a :: b :: r) pos) (rdT X.K B W (tOr m n)) := PW.imp (pw_or ha hb) fun σ H Q h => by
  obtain ⟨F, τ, vs, ds, s, p⟩ := h
  refine ⟨F, τ, vs, ds, s, post_imp (post_bind p) (fun b τ1 q F1 H1 s1 => ?_) fun _ _ q => q⟩
  cases b with
  | false => exact ⟨F1, τ1, vs, ds, s1, q⟩
  | true => exact q F1 H1 s1
theorem t_not {a : Expr} {pos : Pos} {m : MT} (ha : PT X a (rdT X.K B W m)) : PT X (.UnaryOp .Not a pos) (rdT X.K B W (tNot m)) := PT.imp (pt_not ha) fun σ H Q h => by
  obtain ⟨F, τ, vs, ds, s, p⟩ := h
  exact ⟨F, τ, vs, ds, s, post_imp (post_bind p) (fun b τ1 q F1 H1 s1 => q F1 H1 s1) fun _ _ q => q⟩
def eAnd (a b : ME) : ME := fun τ => (a τ).bind fun x τ1 => match x with
  | .bl true => b τ1
  | .bl false => .ok (.bl false) τ1
  | _ => .bad
def eOr (a b : ME) : ME := fun τ => (a τ).bind fun x τ1 => match x with
  | .bl false => b τ1
  | .bl true => .ok (.bl true) τ1
  | _ => .bad
def eNot (a : ME) : ME := fun τ => (a τ).bind fun x τ1 => match x with
  | .bl b => .ok (.bl (!b)) τ1
  | _ => .bad
theorem e_one {op : BoolOp} {a : Expr} {pos : Pos} {m : ME} (h : PE X a (rdE X.K B W m)) : PE X (.BoolOp op [a] pos) (rdE X.K B W m) := pe_one h
theorem e_and {a b : Expr} {r : List Expr} {pos : Pos} {m n : ME} (ha : PE X a (rdE X.K B W m)) (hb : PE X (.BoolOp .And (b :: r) pos) (rdE X.K B W n)) : PE X (.BoolOp .And (a :: b :: r) pos) (rdE X.K B W (eAnd m n)) := PE.imp (pe_and ha hb) fun σ H Q h => by
  obtain ⟨F, τ, vs, ds, s, p⟩ := h
  refine ⟨F, τ, vs, ds, s, post_imp (post_bind p) (fun d τ1 q x F1 H1 s1 => ?_) fun _ _ q => q⟩
  cases d with
  | bl b =>
    refine ⟨b, s1.topF rfl, ?_⟩
    cases b with
    | true => exact ⟨F1, τ1, vs, ds, s1.pop, q⟩
    | false => exact q _ F1 H1 (s1.pop.push (d := .bl false) rfl)
  | _ => exact False.elim q
theorem e_or {a b : Expr} {r : List Expr} {pos : Pos} {m n : ME} (ha : PE X a (rdE X.K B W m)) (hb : PE X (.BoolOp .Or (b :: r) pos) (rdE X.K B W n)) : PE X (.BoolOp .Or (a :: b :: r) pos) (rdE X.K B W (eOr m n)) := PE.imp (pe_or ha hb) fun σ H Q h => by
  obtain ⟨F, τ, vs, ds, s, p⟩ := h
  refine ⟨F, τ, vs, ds, s, post_imp (post_bind p) (fun d τ1 q x F1 H1 s1 => ?_) fun _ _ q => q⟩
  cases d with
  | bl b =>
    refine ⟨b, s1.topF rfl, ?_⟩
    cases b with
    | false => exact ⟨F1, τ1, vs, ds, s1.pop, q⟩
    | true => exact q _ F1 H1 (s1.pop.push (d := .bl true) rfl)
  | _ => exact False.elim q
theorem e_not {a : Expr} {pos : Pos} {m : ME} (ha : PE X a (rdE X.K B W m)) : PE X (.UnaryOp .Not a pos) (rdE X.K B W (eNot m)) := PE.imp (pe_not ha) fun σ H Q h => by
  obtain ⟨F, τ, vs, ds, s, p⟩ := h
  refine ⟨F, τ, vs, ds, s, post_imp (post_bind p) (fun d τ1 q x F1 H1 s1 => ?_) fun _ _ q => q⟩
  cases d with
  | bl b => exact ⟨b, s1.topF rfl, q _ F1 H1 (s1.pop.push (d := .bl (!b)) rfl)⟩
  | _ => exact False.elim q
def aNil : MA := fun τ => .ok [] τ
def aCons (m : ME) (n : MA) : MA := fun τ => (m τ).bind fun d τ1 => (n τ1).bind fun ds τ2 => .ok (d :: ds) τ2
theorem a_nil : PA X [] (rdA X.K B W aNil) := PA.imp pa_nil fun σ H Q ⟨F, τ, vs, ds, s, p⟩ => p [] F H rfl s
theorem a_cons {e : Expr} {es : List Expr} {m : ME} {n : MA} (ha : PE X e (rdE X.K B W m)) (hr : PA X es (rdA X.K B W n)) (hs : starEach (e :: es) X.env = (false, eval e X.env) :: starEach es X.env := by rfl) : PA X (e :: es) (rdA X.K B W (aCons m n)) := PA.imp (pa_cons ha hr hs) fun σ H Q h => by
  obtain ⟨F, τ, vs, ds, s, p⟩ := h
  refine ⟨F, τ, vs, ds, s, post_imp (post_bind p) (fun a τ1 q x F1 H1 s1 => ⟨F1, τ1, _, _, s1, post_imp (post_bind q) (fun es τ2 q us F2 H2 hl s2 => ?_) fun c τ2 q F2 H2 s2 => q F2 H2 s2.pop⟩) fun _ _ q => q⟩
  exact q (x :: us) F2 H2 (by rw [List.length_cons, List.length_cons, hl]) (s2.swap hl)
def rdZA (K : PySem.W.Frag) (B : Bx) (m : Env → Option (List D)) : TA := fun σ H Q => ∃ F τ vs ds, StT K B F H σ τ vs ds ∧ ∃ es, m τ = some es ∧ ∀ us f, RepOs K B.ca F H es us f → Q us H
def zaNil : Env → Option (List D) := fun _ => some []
def zaCons (m : MZ) (n : Env → Option (List D)) : Env → Option (List D) := fun τ => (m τ).bind fun d => (n τ).bind fun ds => some (d :: ds)
theorem za_nil : PA X [] (rdZA X.K B zaNil) := PA.imp pa_nil fun σ H Q ⟨F, τ, vs, ds, s, es, e, k⟩ => by
  cases (show some [] = some es from e)
  exact k [] (fun _ => 0) ⟨rfl, fun _ => rfl⟩
theorem za_cons {e : Expr} {es : List Expr} {m : MZ} {n : Env → Option (List D)} (ha : PE X e (rdZ X.K B m)) (hr : PA X es (rdZA X.K B n)) (hs : starEach (e :: es) X.env = (false, eval e X.env) :: starEach es X.env := by rfl) : PA X (e :: es) (rdZA X.K B (zaCons m n)) := PA.imp (pa_cons ha hr hs) fun σ H Q h => by
  obtain ⟨F, τ, vs, ds, s, es, e, k⟩ := h
  obtain ⟨a, ea, e⟩ := bind_some e
  obtain ⟨bs, eb, e⟩ := bind_some e
  cases (show some (a :: bs) = some es from e)
  exact ⟨F, τ, vs, ds, s, a, ea, fun x f1 hx => ⟨F, τ, vs, ds, s, bs, eb, fun us f2 hu => k (x :: us) (fun b => f1 b + f2 b) ⟨x, us, f1, f2, rfl, hx, hu, fun _ => rfl⟩⟩⟩
def zC' (g : List D → Option D) (m : Env → Option (List D)) : MZ := fun τ => (m τ).bind g
theorem impCZ {r : List V → Hp → VK → Prop} {g : List D → Option D} {m : Env → Option (List D)} (hs : CallS X.K r g) (σ : L2.St) (H : Hp) (Q : VK) (h : rdZ X.K B (zC' g m) σ H Q) : tCB r (rdZA X.K B m) σ H Q := by
  obtain ⟨F, τ, vs, ds, s, d, e, k⟩ := h
  obtain ⟨a, ea, e⟩ := bind_some e
  exact ⟨F, τ, vs, ds, s, a, ea, fun us f hu => hs _ _ _ _ _ _ _ _ s.same hu e k⟩
theorem impCE {r : List V → Hp → VK → Prop} {g : List D → Option D} {m : MA} (hs : CallS X.K r g) (σ : L2.St) (H : Hp) (Q : VK) (h : rdE X.K B W (eC g m) σ H Q) : tCB r (rdA X.K B W m) σ H Q := by
  obtain ⟨F, τ, vs, ds, s, p⟩ := h
  refine ⟨F, τ, vs, ds, s, post_imp (post_bind p) (fun es τ1 q us F1 H1 hl s1 => ?_) fun _ _ q => q⟩
  obtain ⟨d, e, z, q⟩ := post_ofO q
  obtain ⟨f1, hu⟩ := s1.tops hl
  exact hs _ _ _ _ _ _ _ _ s1.same hu e fun v f hv => q v F1 H1 ((s1.pops hl).push ((repO_fz z).mp hv).1)
section
variable {x : Str} {p pos : Pos} {e : Expr} {es : List Expr} {id T : String} {r : List V → Hp → VK → Prop} {g : List D → Option D}
theorem z_callB {m : Env → Option (List D)} (hc : CallR X (.builtin id) r) (hs : CallS X.K r g) (hg : Gl X x) (hm : X.mg x = none) (hv : bootBuiltins x = some (.builtin id)) (ha : PA X (e :: es) (rdZA X.K B m)) (hn : x ≠ "__name__" := by decide) (hdb : (x == ("__debug__" : Str)) = false := by decide)
    (he : starEach (e :: es) X.env = (false, eval e X.env) :: starEach es X.env := by rfl) (hpl : (backTo pos (starEach es X.env)).any (·.1) = false := by rfl) : PE X (.Call (.Name x p) (e :: es) [] pos) (rdZ X.K B (zC' g m)) := PE.imp (pe_callB hc hg hm hv ha hn hdb he hpl) (impCZ hs)
theorem e_callTy {m : MA} (hc : CallR X (.type T) r) (hs : CallS X.K r g) (hg : Gl X x) (hm : X.mg x = none) (hv : bootBuiltins x = some (.type T)) (ha : PA X (e :: es) (rdA X.K B W m)) (hn : x ≠ "__name__" := by decide) (hdb : (x == ("__debug__" : Str)) = false := by decide)
    (he : starEach (e :: es) X.env = (false, eval e X.env) :: starEach es X.env := by rfl) (hpl : (backTo pos (starEach es X.env)).any (·.1) = false := by rfl) : PE X (.Call (.Name x p) (e :: es) [] pos) (rdE X.K B W (eC g m)) := PE.imp (pe_callTy hc hg hm hv ha hn hdb he hpl) (impCE hs)
end
def eTup (m : MA) : ME := fun τ => (m τ).bind fun ds τ1 => if ds.length ≤ 1000000 then .ok (.tup (freezeL ds)) τ1 else .bad
def eLst (m : MA) : ME := fun τ => (m τ).bind fun ds τ1 => if ds.length ≤ 1000000 then .ok (.lst true ds) τ1 else .bad
theorem le_sizeLine {n : Nat} (h : n ≤ 1000000) : n ≤ sizeLine := by rw [sizeLine_eq]; omega
theorem e_tup {es : List Expr} {k : Nat} {pos : Pos} {m : MA} (h : PA X es (rdA X.K B W m)) : PE X (.Tuple es k pos) (rdE X.K B W (eTup m)) := PE.imp (pe_tup h) fun σ H Q h => by
  obtain ⟨F, τ, vs, ds, s, p⟩ := h
  refine ⟨F, τ, vs, ds, s, post_imp (post_bind p) (fun es τ1 q us F1 H1 hl s1 => ?_) fun _ _ q => q⟩
  by_cases z : es.length ≤ 1000000
  · simp only [z, if_true] at q
    refine ⟨le_sizeLine (hl ▸ z), fun p hp => ?_⟩
    obtain ⟨F2, sm, rl, s2⟩ := s1.freeze hl
    exact q _ _ _ (s2.newTup hp rl)
  · simp only [z] at q; exact False.elim q
theorem e_lst {es : List Expr} {pos : Pos} {m : MA} (h : PA X es (rdA X.K B W m)) : PE X (.List es pos) (rdE X.K B W (eLst m)) := PE.imp (pe_lst h) fun σ H Q h => by
  obtain ⟨F, τ, vs, ds, s, p⟩ := h
  refine ⟨F, τ, vs, ds, s, post_imp (post_bind p) (fun es τ1 q us F1 H1 hl s1 => ?_) fun _ _ q => q⟩
  by_cases z : es.length ≤ 1000000
  · simp only [z, if_true] at q
    exact ⟨le_sizeLine (hl ▸ z), fun p hp => q _ _ _ (s1.newLst hl hp)⟩
  · simp only [z] at q; exact False.elim q
end
end Bn
namespace Bn
open PySem PySem.Spec PyProof.Rows L2
structure XOk (X : Cx) (W : WX) : Prop where
  tk : Takes X W
  hp : PassesOwn (model X.prog X.w) X.A X.env X.xe
  calm : X.calm = true
abbrev W0 : WX := fun _ _ _ _ => False
def spP (K : PySem.W.Frag) (ca : Str → Addr) (g : List D → CR) : Sp := fun vs H Q E => ∃ F ds, Same F H ∧ RepL K ca F ds vs ∧
  match g ds with
  | .ok d => ∀ v F' H' f, Same F F' → Same F' H' → Same H H' → RepO K ca F' H' d v f → (∀ a, f a ≤ 1) → (∀ a, 0 < f a → F' a = none ∧ H a = none) → (∀ a, F' a ≠ none → F a ≠ none ∨ H a = none) → Q v H'
  | .ex c => ∀ H', Same H H' → E (.ref (ca c)) none H'
  | .bad => False
structure Fo (P : Program) (w : World) (K : PySem.W.Frag) (mg : Str → Option Value) (base : Heap) (ca : Str → Addr) (k : Nat) (x : Str) (g : List D → CR) : Prop where
  ex : ∃ f fd ps, mg x = some (.ref f) ∧ PySem.W.keepIn K (.ref f) = true ∧ Binds K fd ps [] ∧ FnOk P w K mg base (L2.CX P w) k f fd ps (spP K ca g)
def ofC (r : CR) (τ : Env) : R D := match r with
  | .ok d => .ok d τ
  | .ex c => .ex c τ
  | .bad => .bad
def eCall (g : List D → CR) (m : MA) : ME := fun τ => (m τ).bind fun ds τ1 => ofC (g (freezeL ds)) τ1
section
variable {X : Cx} {B : Bx} {W : WX}
theorem e_call {x : Str} {p pos : Pos} {e : Expr} {es : List Expr} {m : MA} {g : List D → CR} {k j : Nat} (c : XOk X W) (G : Fo X.prog X.w X.K X.mg X.base B.ca k x g) (hr : Room j X.A) (hg : Gl X x) (ha : PA X (e :: es) (rdA X.K B W m)) (hk : k ≤ j := by decide) (hdb : (x == ("__debug__" : Str)) = false := by decide)
    (he : starEach (e :: es) X.env = (false, eval e X.env) :: starEach es X.env := by rfl) (hpl : (backTo pos (starEach es X.env)).any (·.1) = false := by rfl) : PE X (.Call (.Name x p) (e :: es) [] pos) (rdE X.K B W (eCall g m)) := by
  obtain ⟨f, fd, ps, h1, h2, h3, h4⟩ := G.ex
  refine PE.imp (pe_callS h4 (hr.mono hk) hg h1 h2 h3 (fun σ => passAt c.tk σ) ha hdb he hpl) fun σ H Q h => ?_
  obtain ⟨F, τ, vs, ds, s, p⟩ := h
  refine ⟨F, τ, vs, ds, s, post_imp (post_bind p) (fun as τ1 q us F1 H1 hl s1 => ?_) fun _ _ q => q⟩
  obtain ⟨F2, sm, rl, s2⟩ := s1.freeze hl
  refine ⟨F2, freezeL as, s2.same, rl, ?_⟩
  cases eg : g (freezeL as) with
  | ok d => rw [eg] at q; exact fun v F' H' f k1 k2 k3 k4 k5 k6 k7 => q v F' H' (s2.called k1 k2 k3 k4 k5 k6 k7)
  | ex c => rw [eg] at q; exact fun H' k1 => q F2 H' (s2.grown k1)
  | bad => rw [eg] at q; exact q
def R.s {α : Type} : R α → (α → Env → SR) → SR
  | .ok a τ, k => k a τ
  | .ex c τ, _ => .ex c τ
  | .bad, _ => .bad
theorem post_s {α : Type} {K : PySem.W.Frag} {vs : List V} {ds : List D} {D' : Ends} {r : R α} {k : α → Env → SR} {σ : L2.St} (h : postS K B W vs ds D' (r.s k)) : post (fun a τ => postS K B W vs ds D' (k a τ)) (exW K B W σ vs ds) r := by
  cases r with
  | ok a τ => exact h
  | ex c τ => exact fun F H s => h σ F H s
  | bad => exact h
def sSeq (s r : MS) : MS := fun τ => match s τ with
  | .nx τ' => r τ'
  | .rt d τ' => .rt d τ'
  | .bk τ' => .bk τ'
  | .ct τ' => .ct τ'
  | .ex c τ' => .ex c τ'
  | .bad => .bad
def sNil : MS := fun τ => .nx τ
theorem s_nil : PSs X [] (rdS X.K B W sNil) := PSs.imp pss_nil fun D σ H ⟨F, τ, vs, ds, s, p⟩ => p σ F H s
theorem s_one {st : Stmt} {m : MS} (h : PS X st (rdS X.K B W m)) : PSs X [st] (rdS X.K B W m) := pss_one h
theorem s_cons {st : Stmt} {r : List Stmt} {m n : MS} (h : PS X st (rdS X.K B W m)) (hr : PSs X r (rdS X.K B W n)) : PSs X (st :: r) (rdS X.K B W (sSeq m n)) := PSs.imp (pss_cons h hr) fun D σ H ⟨F, τ, vs, ds, s, p⟩ => by
  refine ⟨F, τ, vs, ds, s, ?_⟩
  unfold sSeq at p
  cases e : m τ with
  | nx τ' => rw [e] at p; exact fun σ' F' H' s' => ⟨F', τ', vs, ds, s', p⟩
  | _ => rw [e] at p; exact p
def sRet (m : ME) : MS := fun τ => (m τ).s fun d τ1 => .rt d τ1
theorem s_ret {e : Expr} {pos : Pos} {m : ME} (h : PE X e (rdE X.K B W m)) : PS X (.Return (some e) pos) (rdS X.K B W (sRet m)) := PS.imp (ps_ret h) fun D σ H ⟨F, τ, vs, ds, s, p⟩ =>
  ⟨F, τ, vs, ds, s, post_imp (post_s (σ := σ) p) (fun d τ1 q v F1 H1 s1 => q v σ F1 H1 s1) fun _ _ q => q⟩
def sDrop (m : ME) : MS := fun τ => (m τ).s fun _ τ1 => .nx τ1
theorem s_expr {e : Expr} {pos : Pos} {m : ME} (h : PE X e (rdE X.K B W m)) (hs : swapsWith e none pos.line X.env = pure false := by rfl) : PS X (.Expr e pos) (rdS X.K B W (sDrop m)) := PS.imp (ps_expr h hs) fun D σ H ⟨F, τ, vs, ds, s, p⟩ =>
  ⟨F, τ, vs, ds, s, post_imp (post_s (σ := σ) p) (fun d τ1 q v F1 H1 s1 => q σ F1 H1 s1.pop) fun _ _ q => q⟩
def sIf (c : MT) (a b : MS) : MS := fun τ => (c τ).s fun x τ1 => if x = true then a τ1 else b τ1
theorem s_if {c : Expr} {a b : List Stmt} {pos : Pos} {t : MT} {m n : MS} (hc : PT X c (rdT X.K B W t)) (ha : PSs X a (rdS X.K B W m)) (hb : PSs X b (rdS X.K B W n)) : PS X (.If c a b pos) (rdS X.K B W (sIf t m n)) := PS.imp (ps_if hc ha hb) fun D σ H ⟨F, τ, vs, ds, s, p⟩ => by
  refine ⟨F, τ, vs, ds, s, post_imp (post_s (σ := σ) p) (fun x τ1 q F1 H1 s1 => ?_) fun _ _ q => q⟩
  cases x with
  | true => exact ⟨F1, τ1, vs, ds, s1, q⟩
  | false => exact ⟨F1, τ1, vs, ds, s1, q⟩
def gN (i : Nat) : D → Env → Option Env := fun d τ => some (τ.set i (some d))
theorem StT.put' {K : PySem.W.Frag} {F H : Hp} {σ : L2.St} {τ : Env} {vs : List V} {ds : List D} {v : V} {d : D} {i : Nat} (s : StT K B F H σ τ (v :: vs) (d :: ds)) (hf : ioFree B i) : StT K B F H (σ.set i (some v)) (τ.set i (some d)) vs ds := by
  by_cases h : i < τ.length
  · exact s.put h hf
  · have hl : σ.length = τ.length := by obtain ⟨f1, f2, a, _⟩ := s; exact a.length
    rw [List.set_eq_of_length_le (by omega), List.set_eq_of_length_le (by omega)]
    exact s.pop
theorem g_name {i : Nat} {x : Str} {pos : Pos} (hN : X.N.Nodup) (hi : X.N[i]? = some x) (hx : Loc X.env.scope x) (hio : ioFree B i := by first | (intro p hp; cases hp; done) | (intro p hp; simp only [List.mem_cons, List.not_mem_nil, or_false] at hp; rcases hp with rfl | rfl <;> simp) | (intro p hp; simp only [List.mem_cons, List.not_mem_nil, or_false] at hp; rcases hp with rfl | rfl | rfl <;> simp) | (intro p hp; simp only [List.mem_cons, List.not_mem_nil, or_false] at hp; subst hp; simp)) (hf : X.fn x = true ∨ X.env.scope.names.lookup x = some .local := by first | exact .inl rfl | exact .inr rfl | assumption) : PG X (.Name x pos) (rdG X.K B [i] (gN i)) :=
  PG.imp (pg_name hN hi hx hf) fun v σ H Q ⟨F, τ, vs, ds, d, s, τ', e, k⟩ => by
    cases (show some (τ.set i (some d)) = some τ' from e)
    refine k _ F H (s.put' hio) (by rw [List.length_set]) fun j hj => ?_
    rw [List.getElem?_set_ne]
    exact fun e => hj (by simp [e])
def sAsg (m : ME) (g : D → Env → Option Env) : MS := fun τ => (m τ).s fun d τ1 => match g d τ1 with
  | some τ2 => .nx τ2
  | none => .bad
theorem s_set {i : Nat} {x : Str} {e : Expr} {pos pos' : Pos} {m : ME} (hN : X.N.Nodup) (hi : X.N[i]? = some x) (hx : Loc X.env.scope x) (he : PE X e (rdE X.K B W m)) (hio : ioFree B i := by first | (intro p hp; cases hp; done) | (intro p hp; simp only [List.mem_cons, List.not_mem_nil, or_false] at hp; rcases hp with rfl | rfl <;> simp) | (intro p hp; simp only [List.mem_cons, List.not_mem_nil, or_false] at hp; rcases hp with rfl | rfl | rfl <;> simp) | (intro p hp; simp only [List.mem_cons, List.not_mem_nil, or_false] at hp; subst hp; simp)) (hs : swapsWith e (some (.Name x pos')) pos.line X.env = pure false := by rfl)
    (hf : X.fn x = true ∨ X.env.scope.names.lookup x = some .local := by first | exact .inl rfl | exact .inr rfl | assumption) : PS X (.Assign [.Name x pos'] e pos) (rdS X.K B W (sAsg m (gN i))) := PS.imp (ps_set hN hi hx he hs hf) fun D σ H ⟨F, τ, vs, ds, s, p⟩ =>
  ⟨F, τ, vs, ds, s, post_imp (post_s (σ := σ) p) (fun d τ1 q v F1 H1 s1 => q _ F1 H1 (s1.put' hio)) fun _ _ q => q⟩
structure Ec (K : PySem.W.Frag) (mg : Str → Option Value) (ca : Str → Addr) (x : Str) : Prop where
  g : mg x = some (.ref (ca x))
  k : PySem.W.keepIn K (.ref (ca x)) = true
  q : PySem.W.excIn K (ca x) [.type "ValueError", .type "Exception", .type "BaseException", .type "object"] "ValueError.__new__" = true
  b : PySem.W.subIn K (.ref (ca x)) (.type "BaseException") = some true
  t : PySem.W.typeIn K (.ref (ca x)) = some (.type "type")
def sRaise (x : Str) : MS := fun τ => .ex x τ
theorem s_raise {x m : Str} {j} {p p2 pos1 pos : Pos} (c : XOk X W) (E : Ec X.K X.mg B.ca x) (hg : Gl X x) (hdb : (x == ("__debug__" : Str)) = false := by decide) : PS X (.Raise (some (.Call (.Name x p) [.Constant (.str m) j p2] [] pos1)) none pos) (rdS X.K B W (sRaise x)) :=
  PS.imp (ps_raise c.calm c.tk (pmk_own PySem.F.excBase_ValueError E.q E.g E.k (raises_own E.b E.t) hg hdb)) fun D σ H ⟨F, τ, vs, ds, s, p⟩ => p σ F H s
theorem sqOf {K : PySem.W.Frag} {H : Hp} {a : Addr} {xs : List V} (h : H a = some (.lst xs)) : SqL K H a xs := .inl (.inl h)
structure ItOk (K : PySem.W.Frag) (B : Bx) (J : It) (items : List D) (tv : List V) (td : List D) : Prop where
  go : ∀ i F H σ τ, StT K B F H σ τ tv td → i < items.length → J.go i H
  st : ∀ F H σ τ, StT K B F H σ τ tv td → J.stop items.length H
  y : ∀ i d F H σ τ x H' us es, us.length = es.length → items[i]? = some d → StT K B F H σ τ (us ++ tv) (es ++ td) → J.yld i H x H' → ∃ F', StT K B F' H' σ τ (x :: (us ++ tv)) (d :: (es ++ td))
def rdI (K : PySem.W.Frag) (B : Bx) (W : WX) (m : MA) : TI := fun σ H R => ∃ F τ vs ds, StT K B F H σ τ vs ds ∧ post (fun items τ1 => ∀ J us es F' H', us.length = es.length → StT K B F' H' σ τ1 (us ++ vs) (es ++ ds) → ItOk K B J items (us ++ vs) (es ++ ds) → R J H') (exW K B W σ vs ds) (m τ)
theorem PI.imp {tg it : Expr} {t t' : TI} (h : PI X tg it t) (k : ∀ σ H R, t' σ H R → t σ H R) : PI X tg it t' := ⟨fun p s σ H R I q => h.run p s σ H R I (k _ _ _ q)⟩
theorem freeze_fz : ∀ d : D, isFz (freeze d) = true
  | .lst true _ => rfl | .lst false _ => rfl | .obj true _ _ _ => rfl | .obj false _ _ _ => rfl
  | .non => rfl | .bl _ => rfl | .int _ => rfl | .str _ => rfl | .ty _ => rfl | .tup _ => rfl | .cst _ => rfl | .val _ => rfl | .exc _ => rfl | .tpo _ => rfl | .dct true _ _ => rfl | .dct false _ _ => rfl
theorem StT.freeze1 {K : PySem.W.Frag} {F H : Hp} {σ : L2.St} {τ : Env} {vs : List V} {ds : List D} {v : V} {d : D} (s : StT K B F H σ τ (v :: vs) (d :: ds)) : ∃ F', StT K B F' H σ τ (v :: vs) (Bn.freeze d :: ds) := by
  obtain ⟨F2, sm, ⟨_, _, e2, r, _⟩, s2⟩ := StT.freeze (us := [v]) (es := [d]) s rfl
  cases e2
  exact ⟨F2, s2.push r⟩
def strD (s : Str) : List D := s.cps.toList.map fun c => D.str ⟨#[c]⟩
theorem itOk_str {K : PySem.W.Frag} {z : Str} {vs : List V} {ds : List D} : ItOk K B (Its z) (strD z) vs ds := by
  refine ⟨fun i F H σ τ s hi => ?_, fun F H σ τ s => ?_, fun i d F H σ τ x H' us' es' hl hd s y => ?_⟩
  · show i < z.cps.size; simpa [strD] using hi
  · show z.cps.size ≤ (strD z).length; simp [strD]
  · obtain ⟨rfl, c, hc, rfl⟩ := y
    have e : d = .str ⟨#[c]⟩ := by
      unfold strD at hd
      rw [List.getElem?_map, Array.getElem?_toList, hc] at hd
      exact (Option.some.inj hd).symm
    subst e
    exact ⟨F, s.push (d := .str _) rfl⟩
def iS (m : ME) : MA := fun τ => (m τ).bind fun d τ1 => match d with
  | .str z => .ok (strD z) τ1
  | _ => .bad
theorem i_str {tg l : Expr} {m : ME} (hl : PE X l (rdE X.K B W m)) : PI X tg l (rdI X.K B W (iS m)) := PI.imp (pi_str hl) fun σ H R ⟨F, τ, vs, ds, s, p⟩ => by
  refine ⟨F, τ, vs, ds, s, post_imp (post_bind p) (fun d τ1 q v F1 H1 s1 => ?_) fun _ _ q => q⟩
  cases d with
  | str z => exact ⟨z, s1.topF rfl, q (Its z) [] [] F1 H1 rfl s1.pop itOk_str⟩
  | _ => exact False.elim q
theorem StT.pushL {K : PySem.W.Frag} {F H : Hp} {σ : L2.St} {τ : Env} {vs us : List V} {ds es : List D} (s : StT K B F H σ τ vs ds) (h : RepL K B.ca F es us) : StT K B F H σ τ (us ++ vs) (es ++ ds) := by
  obtain ⟨f1, f2, A, b, w, io⟩ := s
  have b2 := (h.os (H := H)).append b
  have e3 : (fun b => 0 + f2 b) = f2 := funext fun b => by omega
  rw [e3] at b2
  exact ⟨f1, f2, A, b2, w, io⟩
end
end Bn
namespace Bn
open PySem PySem.Spec PyProof.Rows L2
def forL (g : D → Env → Option Env) (b : MS) : List D → Env → SR
  | [], τ => .nx τ
  | d :: r, τ => match g d τ with
    | none => .bad
    | some τ1 => match b τ1 with
      | .nx τ2 => forL g b r τ2
      | .ct τ2 => forL g b r τ2
      | .bk τ2 => .nx τ2
      | .rt d τ2 => .rt d τ2
      | .ex c τ2 => .ex c τ2
      | .bad => .bad
def sFor (m : MA) (g : D → Env → Option Env) (b : MS) : MS := fun τ => (m τ).s fun items τ1 => forL g b items τ1
def whileM (c : MT) (b : MS) : Nat → Env → SR
  | 0, _ => .bad
  | n + 1, τ => match c τ with
    | .ok true τ1 => (match b τ1 with
      | .nx τ2 => whileM c b n τ2
      | .ct τ2 => whileM c b n τ2
      | .bk τ2 => .nx τ2
      | .rt d τ2 => .rt d τ2
      | .ex e τ2 => .ex e τ2
      | .bad => .bad)
    | .ok false τ1 => .nx τ1
    | .ex e τ1 => .ex e τ1
    | .bad => .bad
def sWhile (fuel : Env → Nat) (c : MT) (b : MS) : MS := fun τ => whileM c b (fuel τ) τ
section
variable {X : Cx} {B : Bx} {W : WX}
theorem postS_pops {K : PySem.W.Frag} {us vs : List V} {es ds : List D} {D' : Ends} {r : SR} (hl : us.length = es.length) (h : postS K B W vs ds D' r) : postS K B W (us ++ vs) (es ++ ds) D' r := by
  cases r with
  | nx τ => exact fun σ F H s => h σ F H (s.pops hl)
  | rt d τ => exact fun v σ F H s => h v σ F H (StT.pops (us := us) (es := es) (by
      obtain ⟨f1, f2, A, ⟨v', r', g1, g2, e, b1, b2, q⟩, w, io⟩ := s
      cases e
      obtain ⟨g3, g4, c1, c2, q2⟩ := b2.split' hl
      exact ⟨f1, f2, A, c1.append (us := v :: vs) (es := d :: ds) (g := fun b => g1 b + g4 b) ⟨v, vs, g1, g4, rfl, b1, c2, fun _ => rfl⟩ |> fun z => by
        have e : (fun b => g3 b + (g1 b + g4 b)) = f2 := funext fun b => by rw [q, q2]; omega
        rw [e] at z; exact z, w, io⟩) hl)
  | bk τ => exact fun σ F H s => h σ F H (s.pops hl)
  | ct τ => exact fun σ F H s => h σ F H (s.pops hl)
  | ex c τ => exact fun σ F H s => h σ F H (s.pops hl)
  | bad => exact h
theorem for_core {J : It} {items : List D} {tv : List V} {td : List D} {g : D → Env → Option Env} {sl : List Nat} {b : MS} {K : PySem.W.Frag} {σ : L2.St} {H F : Hp} {τ : Env} {D' : Ends} (ok : ItOk K B J items tv td) (s : StT K B F H σ τ tv td) (p : postS K B W tv td D' (forL g b items τ)) :
    ∃ W' : Nat → Nat → L2.St → Hp → Prop, (∃ m, W' 0 m σ H) ∧ ∀ i m σ H, W' i m σ H → (J.stop i H ∧ D'.nx σ H) ∨ (J.go i H ∧ ∃ N : L2.St → Hp → Prop, (∀ σ' H', N σ' H' → ∃ m', m' < m ∧ W' (i + 1) m' σ' H') ∧
      ∀ x H', J.yld i H x H' → rdG K B sl g x σ H' fun σ2 H2 => rdS K B W b { D' with nx := N, ct := N, bk := D'.nx } σ2 H2) := by
  refine ⟨fun i m σ H => m = items.length - i ∧ i ≤ items.length ∧ ∃ F τ, StT K B F H σ τ tv td ∧ postS K B W tv td D' (forL g b (items.drop i) τ), ⟨_, rfl, Nat.zero_le _, F, τ, s, p⟩, ?_⟩
  rintro i m σ H ⟨rfl, hi, F, τ, s, p⟩
  by_cases h : i < items.length
  · refine .inr ⟨ok.go i F H σ τ s h, fun σ' H' => ∃ F τ, StT K B F H' σ' τ tv td ∧ postS K B W tv td D' (forL g b (items.drop (i + 1)) τ), fun σ' H' ⟨F', τ', s', p'⟩ => ⟨items.length - (i + 1), by omega, rfl, h, F', τ', s', p'⟩, fun x H' y => ?_⟩
    have e : items[i]? = some items[i] := by simp [h]
    obtain ⟨F', s'⟩ := ok.y i _ F H σ τ x H' [] [] rfl e s y
    rw [List.drop_eq_getElem_cons h] at p
    unfold forL at p
    cases eg : g items[i] τ with
    | none => rw [eg] at p; exact p.elim
    | some τ1 =>
      rw [eg] at p
      refine ⟨F', τ, tv, td, _, s', τ1, eg, fun σ2 F2 H2 s2 _ _ => ⟨F2, τ1, tv, td, s2, ?_⟩⟩
      cases eb : b τ1 with
      | nx τ2 => simp only [eb] at p; exact fun σ3 F3 H3 s3 => ⟨F3, τ2, s3, p⟩
      | ct τ2 => simp only [eb] at p; exact fun σ3 F3 H3 s3 => ⟨F3, τ2, s3, p⟩
      | bk τ2 => simp only [eb] at p; exact p
      | rt d τ2 => simp only [eb] at p; exact p
      | ex c τ2 => simp only [eb] at p; exact p
      | bad => simp only [eb] at p; exact p
  · have e : i = items.length := by omega
    subst e
    rw [List.drop_length] at p
    exact .inl ⟨ok.st F H σ τ s, p σ F H s⟩
theorem s_for {tg it : Expr} {body : List Stmt} {pos : Pos} {m : MA} {sl : List Nat} {g : D → Env → Option Env} {b : MS} (c : XOk X W) (hi : PI X tg it (rdI X.K B W m)) (hg : PG X tg (rdG X.K B sl g)) (hb : PSs X body (rdS X.K B W b))
    (hs : ∀ x, foldedSetIterable it X.env x = pure x := by intro _; rfl) : PS X (.For tg it body [] pos) (rdS X.K B W (sFor m g b)) := PS.imp (ps_for c.hp c.calm hi hg hb hs) fun D' σ H ⟨F, τ, vs, ds, s, p⟩ =>
  ⟨F, τ, vs, ds, s, post_imp (post_s (σ := σ) p) (fun items τ1 q J us es F' H' hl s' ok => for_core ok s' (postS_pops hl q)) fun _ _ q => q⟩
theorem s_while {c : Expr} {body : List Stmt} {pos : Pos} {t : MT} {b : MS} (k : XOk X W) (fuel : Env → Nat) (hc : PT X c (rdT X.K B W t)) (hb : PSs X body (rdS X.K B W b)) : PS X (.While c body [] pos) (rdS X.K B W (sWhile fuel t b)) := PS.imp (ps_while k.hp hc hb) fun D' σ H ⟨F, τ, vs, ds, s, p⟩ => by
  refine ⟨fun m σ H => ∃ F τ, StT X.K B F H σ τ vs ds ∧ postS X.K B W vs ds D' (whileM t b m τ), ⟨_, F, τ, s, p⟩, ?_⟩
  rintro m σ H ⟨F, τ, s, p⟩
  cases m with
  | zero => exact False.elim p
  | succ m =>
    unfold whileM at p
    refine ⟨F, τ, vs, ds, s, ?_⟩
    cases et : t τ with
    | bad => rw [et] at p; exact p
    | ex e τ1 => rw [et] at p; exact fun F1 H1 s1 => p σ F1 H1 s1
    | ok x τ1 =>
      rw [et] at p
      intro F1 H1 s1
      cases x with
      | false => exact p σ F1 H1 s1
      | true =>
        refine ⟨fun σ' H' => ∃ F τ, StT X.K B F H' σ' τ vs ds ∧ postS X.K B W vs ds D' (whileM t b m τ), fun σ' H' ⟨F', τ', s', p'⟩ => ⟨m, Nat.lt_succ_self m, F', τ', s', p'⟩, F1, τ1, vs, ds, s1, ?_⟩
        cases eb : b τ1 with
        | nx τ2 => simp only [eb] at p; exact fun σ3 F3 H3 s3 => ⟨F3, τ2, s3, p⟩
        | ct τ2 => simp only [eb] at p; exact fun σ3 F3 H3 s3 => ⟨F3, τ2, s3, p⟩
        | bk τ2 => simp only [eb] at p; exact p
        | rt d τ2 => simp only [eb] at p; exact p
        | ex c τ2 => simp only [eb] at p; exact p
        | bad => simp only [eb] at p; exact p
def wipeE (τ : Env) : List Nat → Env
  | [] => τ
  | v :: vs => (wipeE τ vs).set v none
theorem Sl.reset {K : PySem.W.Frag} {ca : Str → Addr} {F H : Hp} : ∀ {τ : Env} {σ σ' : L2.St} {f : Ct}, Sl K ca F H τ σ f → σ'.length = σ.length → (∀ (j : Nat) (d : D), τ[j]? = some (some d) → σ'[j]? = σ[j]?) → Sl K ca F H τ σ' f
  | [], σ, σ', f, h, hl, k => by
    obtain ⟨rfl, h2⟩ := h
    exact ⟨List.eq_nil_of_length_eq_zero hl, h2⟩
  | none :: τ, _, σ', f, ⟨x, r, h1, h2⟩, hl, k => by
    subst h1
    cases σ' with
    | nil => cases hl
    | cons y r' => exact ⟨y, r', rfl, h2.reset (by simpa using hl) fun j d hj => by simpa using k (j + 1) d (by simpa using hj)⟩
  | some d :: τ, _, σ', f, ⟨v, r, f1, f2, h1, h2, h3, h4⟩, hl, k => by
    subst h1
    cases σ' with
    | nil => cases hl
    | cons y r' =>
      have e : some y = some (some v) := by simpa using k 0 d (by simp)
      cases e
      exact ⟨v, r', f1, f2, rfl, h2, h3.reset (by simpa using hl) fun j d hj => by simpa using k (j + 1) d (by simpa using hj), h4⟩
theorem StT.reset {K : PySem.W.Frag} {F H : Hp} {σ σ' : L2.St} {τ : Env} {vs : List V} {ds : List D} (s : StT K B F H σ τ vs ds) (hl : σ'.length = σ.length) (k : ∀ (j : Nat) (d : D), τ[j]? = some (some d) → σ'[j]? = σ[j]?) (io : IoOk B σ') : StT K B F H σ' τ vs ds := by
  obtain ⟨f1, f2, a, b, w, _⟩ := s
  exact ⟨f1, f2, a.reset hl k, b, w, io⟩
theorem StT.wipeE {K : PySem.W.Frag} {F H : Hp} {σ : L2.St} {τ : Env} {vs : List V} {ds : List D} (s : StT K B F H σ τ vs ds) : ∀ own : List Nat, StT K B F H σ (Bn.wipeE τ own) vs ds
  | [] => s
  | _ :: own => (s.wipeE own).forget
end
end Bn
namespace Bn
open PySem PySem.Spec PyProof.Rows L2
section
variable {X : Cx} {B : Bx} {W : WX}
theorem PTs.imp {e : List Expr} {t t' : TT} (h : PTs X e t) (k : ∀ σ H Q, t' σ H Q → t σ H Q) : PTs X e t' := ⟨fun p s σ H Q I q => h.run p s σ H Q I (k _ _ _ q)⟩
end
def callF (n N : Nat) (b : MS) : List D → CR := fun ds => if ds.length = n then (match b (ds.map some ++ List.replicate (N - n) none) with
  | .nx _ => .ok .non
  | .rt d _ => .ok d
  | .ex c _ => .ex c
  | _ => .bad) else .bad
theorem sl_start {K : PySem.W.Frag} {ca : Str → Addr} {F H : Hp} {k : Nat} : ∀ {ds : List D} {vs : List V}, RepL K ca F ds vs → Sl K ca F H (ds.map some ++ List.replicate k none) (vs.map some ++ List.replicate k none) (fun _ => 0)
  | [], vs, h => by
    cases (show vs = [] from h)
    show Sl K ca F H (List.replicate k none) (List.replicate k none) _
    induction k with
    | zero => exact ⟨rfl, fun _ => rfl⟩
    | succ k ih => exact ⟨none, _, rfl, ih⟩
  | d :: ds, _, ⟨v, r, h1, h2, h3⟩ => by
    subst h1
    exact ⟨v, _, _, _, rfl, h2.o, sl_start h3, fun _ => rfl⟩
section
variable {P : Program} {w : World} {K : PySem.W.Frag} {mg : Str → Option Value} {base : Heap} {ca : Str → Addr}
theorem fn_ok {x qual : Str} {st : Stmt} {f : Addr} {fd : FuncData} {N ps : List Str} {k : Nat} {b : MS} (F : Fun K x qual st f fd) (S : FnScope N ps (defScope st))
    (hb : ∀ (cdv : Value) (A : Around) (outer : List PySem.Env) (s : Shared) (H : Hp) (E : XK) (F0 R : Hp), Room k (A.deeper (envOfC qual (defScope st) s.heap.objs.size f cdv)) →
      XOk (cxOf (L2.CX P w) P w K mg base N qual (defScope st) f cdv A outer s H E) (fun cls d _ H => E cls d H) →
      PSs (cxOf (L2.CX P w) P w K mg base N qual (defScope st) f cdv A outer s H E) (defBody st) (rdS K ⟨ca, F0, R, []⟩ (fun cls d _ H => E cls d H) b)) :
    FnOk P w K mg base (L2.CX P w) (k + 1) f fd ps (spP K ca (callF ps.length N.length b)) := by
  refine F.okX S (fun vs H Q E h => ?_) (fun cdv A outer s H vs Q E hr h => ?_)
  · obtain ⟨F0, ds, _, rl, h⟩ := h
    rw [rl.length]
    by_cases e : ds.length = ps.length
    · exact e
    · unfold callF at h
      rw [if_neg e] at h
      exact h.elim
  · obtain ⟨F0, ds, sm, rl, h⟩ := h
    refine ⟨_, hb cdv A outer s H E F0 H hr ⟨takes_of rfl rfl rfl rfl, passes_of rfl, rfl⟩, ?_⟩
    have hl : ds.length = ps.length := by
      by_cases e : ds.length = ps.length
      · exact e
      · unfold callF at h
        rw [if_neg e] at h
        exact h.elim
    unfold callF at h
    rw [if_pos hl] at h
    have st0 : StT K ⟨ca, F0, H, []⟩ F0 H (L2.start N vs) (ds.map some ++ List.replicate (N.length - ps.length) none) [] [] := by
      refine ⟨fun _ => 0, fun _ => 0, ?_, ⟨rfl, fun _ => rfl⟩, ⟨fun _ => Nat.zero_le _, fun a q => absurd q (Nat.lt_irrefl _), fun a q => absurd q (Nat.lt_irrefl _), sm, Same.refl _, Same.refl _, fun a q => .inl q⟩, fun p hp => by cases hp⟩
      unfold L2.start
      rw [rl.length, hl]
      exact sl_start rl
    refine ⟨F0, _, [], [], st0, ?_⟩
    cases e : b (ds.map some ++ List.replicate (N.length - ps.length) none) with
    | nx τ =>
      rw [e] at h
      intro σ' F' H' s'
      obtain ⟨f1, f2, _, _, w', _⟩ := s'
      exact h .non F' H' (fun _ => 0) w'.s0 w'.sF w'.sR (Rep.o (d := .non) rfl) (fun _ => Nat.zero_le _) (fun a q => absurd q (Nat.lt_irrefl _)) w'.fr
    | rt d τ =>
      rw [e] at h
      intro v σ' F' H' s'
      obtain ⟨f1, f2, _, ⟨_, _, g1, g2, ee, hv, _, q⟩, w', _⟩ := s'
      cases ee
      have le : ∀ a, g1 a ≤ f1 a + f2 a := fun a => by rw [q]; omega
      exact h v F' H' g1 w'.s0 w'.sF w'.sR hv (fun a => Nat.le_trans (le a) (w'.nd a)) (fun a z => ⟨w'.dF a (Nat.lt_of_lt_of_le z (le a)), w'.dR a (Nat.lt_of_lt_of_le z (le a))⟩) w'.fr
    | ex c τ =>
      rw [e] at h
      intro σ' F' H' s'
      obtain ⟨f1, f2, _, _, w', _⟩ := s'
      exact h H' w'.sR
    | bk τ => rw [e] at h; exact h.elim
    | ct τ => rw [e] at h; exact h.elim
    | bad => rw [e] at h; exact h.elim
theorem fo_of {x qual : Str} {st : Stmt} {f : Addr} {fd : FuncData} {ps : List Str} {k : Nat} {g : List D → CR} (F : Fun K x qual st f fd) (hm : mg x = some (.ref f)) (hb : Binds K fd ps []) (h : FnOk P w K mg base (L2.CX P w) k f fd ps (spP K ca g)) : Fo P w K mg base ca k x g := ⟨f, fd, ps, hm, F.kp, hb, h⟩
end
end Bn
namespace Bn
open PySem PySem.Spec PyProof.Rows L2
section
variable {K : PySem.W.Frag}
def gI (k : Int → Int → D) : D → D → Option D
  | .int i, .int j => some (k i j)
  | _, _ => none
def gIC (C : Int → Int → Prop) [∀ i j, Decidable (C i j)] (k : Int → Int → D) : D → D → Option D
  | .int i, .int j => if C i j then some (k i j) else none
  | _, _ => none
theorem opS_I0 {f : Int → Int → V} {k : Int → Int → D} (h : ∀ ca F i j, Rep K ca F (k i j) (f i j)) : OpS K (rI0 f) (gI k) := by
  intro ca F H x y a b d f1 f2 Q sm hx hy e q
  cases a with
  | int i =>
    cases b with
    | int j =>
      cases (show some (k i j) = some d from e)
      exact ⟨i, j, hx.1, hy.1, q _ _ (h ca F i j).o⟩
    | _ => cases e
  | _ => cases e
theorem opS_IC {C : Int → Int → Prop} [∀ i j, Decidable (C i j)] {f : Int → Int → V} {k : Int → Int → D} (h : ∀ ca F i j, Rep K ca F (k i j) (f i j)) : OpS K (rI C f) (gIC C k) := by
  intro ca F H x y a b d f1 f2 Q sm hx hy e q
  cases a with
  | int i =>
    cases b with
    | int j =>
      by_cases c : C i j
      · have e' : (if C i j then some (k i j) else none) = some d := e
        rw [if_pos c] at e'
        cases e'
        exact ⟨i, j, hx.1, hy.1, c, q _ _ (h ca F i j).o⟩
      · have e' : (if C i j then some (k i j) else none) = some d := e
        rw [if_neg c] at e'; cases e'
    | _ => cases e
  | _ => cases e
def gAdd : D → D → Option D := gI fun i j => .int (i + j)
def gSub : D → D → Option D := gI fun i j => .int (i - j)
instance {i j : Int} : Decidable (CMulW i j) := by unfold CMulW; infer_instance
instance {i j : Int} : Decidable (CDivW i j) := by unfold CDivW; infer_instance
instance {i j : Int} : Decidable (CPow i j) := by unfold CPow; infer_instance
def gDiv : D → D → Option D := gIC CDivW fun i j => .int (i / j)
def gMod : D → D → Option D := gIC (fun _ j => 0 < j) fun i j => .int (i % j)
def gPow : D → D → Option D := gIC CPow fun i j => .int (i ^ j.toNat)
def gLt : D → D → Option D := gI fun i j => .bl (decide (i < j))
def gGt : D → D → Option D := gI fun i j => .bl (decide (j < i))
theorem sAdd : OpS K (rI0 fun i j => .int (i + j)) gAdd := opS_I0 fun _ _ _ _ => rfl
theorem sSub : OpS K (rI0 fun i j => .int (i - j)) gSub := opS_I0 fun _ _ _ _ => rfl
theorem sDiv : OpS K (rI CDivW fun i j => .int (i / j)) gDiv := opS_IC fun _ _ _ _ => rfl
theorem sMod : OpS K (rI (fun _ j => 0 < j) fun i j => .int (i % j)) gMod := opS_IC fun _ _ _ _ => rfl
theorem sPow : OpS K (rI CPow fun i j => .int (i ^ j.toNat)) gPow := opS_IC fun _ _ _ _ => rfl
theorem sLt : OpS K (rI0 fun i j => .bl (decide (i < j))) gLt := opS_I0 fun _ _ _ _ => rfl
theorem sGt : OpS K (rI0 fun i j => .bl (decide (j < i))) gGt := opS_I0 fun _ _ _ _ => rfl
def gNeg : D → Option D
  | .int i => some (.int (-i))
  | _ => none
theorem sNeg : UnS K (rU fun i => .int (-i)) gNeg := by
  intro ca F H x a d f1 Q sm hx e q
  cases a with
  | int i =>
    cases (show some (D.int (-i)) = some d from e)
    exact ⟨i, hx.1, q (.int (-i)) _ (Rep.o (d := .int (-i)) rfl)⟩
  | _ => cases e
def gAddS : D → D → Option D
  | .str i, .str j => if i.length + j.length ≤ 1000000 then some (.str (i ++ j)) else none
  | _, _ => none
theorem sAddS : OpS K (fun x y H Q => ∃ i j, x = .str i ∧ y = .str j ∧ i.length + j.length ≤ sizeLine ∧ Q (.str (i ++ j)) H) gAddS := by
  intro ca F H x y a b d f1 f2 Q sm hx hy e q
  cases a with
  | str i =>
    cases b with
    | str j =>
      by_cases c : i.length + j.length ≤ 1000000
      · have e' : (if i.length + j.length ≤ 1000000 then some (D.str (i ++ j)) else none) = some d := e
        rw [if_pos c] at e'
        cases e'
        exact ⟨i, j, hx.1, hy.1, le_sizeLine c, q (.str (i ++ j)) _ (Rep.o (d := .str (i ++ j)) rfl)⟩
      · have e' : (if i.length + j.length ≤ 1000000 then some (D.str (i ++ j)) else none) = some d := e
        rw [if_neg c] at e'; cases e'
    | _ => cases e
  | _ => cases e
mutual
def toP : D → PyData
  | .bl b => .bool b
  | .int i => .int i
  | .str s => .str s
  | .tup xs => .tuple (toPs xs)
  | .lst _ xs => .list (toPs xs)
  | .cst xs => .list (toPs xs)
  | .non => .none
  | .ty _ => .none
  | .val _ => .none
  | .exc _ => .none
  | .tpo xs => .tuple (toPs xs)
  | .dct _ _ _ => .none
  | .obj _ _ _ _ => .none
def toPs : List D → List PyData
  | [] => []
  | x :: xs => toP x :: toPs xs
end
mutual
def hasP : D → Bool
  | .tup xs => hasPs xs
  | .lst _ xs => hasPs xs
  | .cst xs => hasPs xs
  | .ty _ => false
  | .val _ => false
  | .exc _ => false
  | .tpo xs => hasPs xs
  | .dct _ _ _ => false
  | .obj _ _ _ _ => false
  | .bl _ => true | .int _ => true | .str _ => true | .non => true
def hasPs : List D → Bool
  | [] => true
  | x :: xs => hasP x && hasPs xs
end
section
variable {ca : Str → Addr} {F H : Hp}
mutual
theorem Rep.dp (sm : Same F H) : ∀ (d : D) (v : V), hasP d = true → Rep K ca F d v → Dp K H v (toP d)
  | .non, v, _, h => by cases (show v = .non from h); exact .non
  | .bl b, v, _, h => by cases (show v = .bl b from h); exact .bl b
  | .int b, v, _, h => by cases (show v = .int b from h); exact .int b
  | .str b, v, _, h => by cases (show v = .str b from h); exact .str b
  | .tup ds, v, z, h => by
    obtain ⟨a, vs, rfl, h1, h2⟩ := h
    exact .tup (sqT_same sm h1) (RepL.dp sm ds vs z h2)
  | .lst true _, _, _, h => h.elim
  | .lst false ds, v, z, h => by
    obtain ⟨a, vs, rfl, h1, h2⟩ := h
    exact .lst (sqOf (sm _ _ h1)) (RepL.dp sm ds vs z h2)
  | .cst ds, v, z, h => by
    obtain ⟨a, vs, rfl, h1, h2⟩ := h
    exact .lst (sm.seq h1) (RepL.dp sm ds vs z h2)
  | .tpo _, _, _, h => h.elim
theorem RepL.dp (sm : Same F H) : ∀ (ds : List D) (vs : List V), hasPs ds = true → RepL K ca F ds vs → DpAll K H vs (toPs ds)
  | [], vs, _, h => by cases (show vs = [] from h); exact .nil
  | d :: ds, _, z, ⟨v, r, h1, h2, h3⟩ => by
    subst h1
    have z' : (hasP d && hasPs ds) = true := z
    rw [Bool.and_eq_true] at z'
    exact .cons (Rep.dp sm d v z'.1 h2) (RepL.dp sm ds r z'.2 h3)
end
mutual
theorem RepO.dp (sm : Same F H) : ∀ (d : D) (v : V) (f : Ct), hasP d = true → RepO K ca F H d v f → Dp K H v (toP d)
  | .lst true ds, v, f, z, h => by
    obtain ⟨a, vs, g, rfl, h1, h2, _⟩ := h
    exact .lst (sqOf h1) (RepOs.dp sm ds vs g z h2)
  | .lst false ds, v, f, z, h => Rep.dp sm _ _ z h.1
  | .non, v, f, z, h => Rep.dp sm _ _ z h.1
  | .bl _, v, f, z, h => Rep.dp sm _ _ z h.1
  | .int _, v, f, z, h => Rep.dp sm _ _ z h.1
  | .str _, v, f, z, h => Rep.dp sm _ _ z h.1
  | .tup _, v, f, z, h => Rep.dp sm _ _ z h.1
  | .cst _, v, f, z, h => Rep.dp sm _ _ z h.1
  | .tpo ds, v, f, z, h => by
    obtain ⟨a, vs, rfl, h1, h2⟩ := h
    exact .tup (sqT_same sm h1) (RepOs.dp sm ds vs f z h2)
theorem RepOs.dp (sm : Same F H) : ∀ (ds : List D) (vs : List V) (f : Ct), hasPs ds = true → RepOs K ca F H ds vs f → DpAll K H vs (toPs ds)
  | [], vs, _, _, h => by cases (show vs = [] from h.1); exact .nil
  | d :: ds, _, f, z, ⟨v, r, f1, f2, h1, h2, h3, _⟩ => by
    subst h1
    have z' : (hasP d && hasPs ds) = true := z
    rw [Bool.and_eq_true] at z'
    exact .cons (RepO.dp sm d v f1 z'.1 h2) (RepOs.dp sm ds r f2 z'.2 h3)
end
end
def okP (d : D) : Bool := hasP d && SeqAt.shaped (toP d)
def eqP (a b : D) : Bool := PyData.eqv (toP a) (toP b)
def gEq (a b : D) : Option D := if okP a = true ∧ okP b = true then some (.bl (eqP a b)) else none
def gNe (a b : D) : Option D := if okP a = true ∧ okP b = true then some (.bl (!eqP a b)) else none
theorem sEq : OpS K (rEqD K) gEq := by
  intro ca F H x y a b d f1 f2 Q sm hx hy e q
  unfold gEq at e
  by_cases c : okP a = true ∧ okP b = true
  · rw [if_pos c] at e
    cases e
    have c1 := c.1
    have c2 := c.2
    unfold okP at c1 c2
    rw [Bool.and_eq_true] at c1 c2
    exact ⟨_, _, RepO.dp sm a x f1 c1.1 hx, RepO.dp sm b y f2 c2.1 hy, c1.2, c2.2, q (.bl _) _ (Rep.o (d := .bl _) rfl)⟩
  · rw [if_neg c] at e; cases e
theorem sNe : OpS K (rNeD K) gNe := by
  intro ca F H x y a b d f1 f2 Q sm hx hy e q
  unfold gNe at e
  by_cases c : okP a = true ∧ okP b = true
  · rw [if_pos c] at e
    cases e
    have c1 := c.1
    have c2 := c.2
    unfold okP at c1 c2
    rw [Bool.and_eq_true] at c1 c2
    exact ⟨_, _, RepO.dp sm a x f1 c1.1 hx, RepO.dp sm b y f2 c2.1 hy, c1.2, c2.2, q (.bl _) _ (Rep.o (d := .bl _) rfl)⟩
  · rw [if_neg c] at e; cases e
def itemsD : D → Option (List D)
  | .lst _ xs => some xs
  | .cst xs => some xs
  | .tup xs => some xs
  | .tpo xs => some xs
  | _ => none
def gIx (a b : D) : Option D := match b with
  | .int i => (match a with
    | .str z => if z.length ≤ 1000000 then (atI z.cps.toList i).map fun c => .str ⟨#[c]⟩ else none
    | .lst _ xs => atI xs i
    | .cst xs => atI xs i
    | .tup xs => atI xs i
    | .tpo xs => atI xs i
    | _ => none)
  | _ => none
theorem atI_get {α β : Type} {xs : List α} {ys : List β} {i : Int} {y : β} (hl : xs.length = ys.length) (h : atI ys i = some y) : ∃ (j : Nat) (x : α), ys[j]? = some y ∧ xs[j]? = some x ∧ atI xs i = some x := by
  unfold atI at h ⊢
  obtain ⟨j, e, h⟩ := bind_some h
  have hj : j < ys.length := (List.getElem?_eq_some_iff.mp h).1
  obtain ⟨x, hx⟩ : ∃ x, xs[j]? = some x := ⟨xs[j]'(by omega), by simp [hl, hj]⟩
  refine ⟨j, x, h, hx, ?_⟩
  rw [hl, e]
  exact hx
theorem seq_of {ca : Str → Addr} {F H : Hp} {a : D} {x : V} {f : Ct} {xs : List D} (sm : Same F H) (h : RepO K ca F H a x f) (e : itemsD a = some xs) : ∃ p vs g, x = .ref p ∧ (SqL K H p vs ∨ SqT K H p vs) ∧ RepOs K ca F H xs vs g := by
  cases a with
  | tup ds =>
    cases (show some ds = some xs from e)
    obtain ⟨⟨a, vs, rfl, h1, h2⟩, _⟩ := h
    exact ⟨a, vs, _, rfl, .inr (sqT_same sm h1), h2.os⟩
  | tpo ds =>
    cases (show some ds = some xs from e)
    obtain ⟨a, vs, rfl, h1, h2⟩ := h
    exact ⟨a, vs, _, rfl, .inr (sqT_same sm h1), h2⟩
  | cst ds =>
    cases (show some ds = some xs from e)
    obtain ⟨⟨a, vs, rfl, h1, h2⟩, _⟩ := h
    exact ⟨a, vs, _, rfl, .inl (sm.seq h1), h2.os⟩
  | lst m ds =>
    cases (show some ds = some xs from e)
    cases m with
    | true =>
      obtain ⟨a, vs, g, rfl, h1, h2, _⟩ := h
      exact ⟨a, vs, g, rfl, .inl (sqOf h1), h2⟩
    | false =>
      obtain ⟨⟨a, vs, rfl, h1, h2⟩, _⟩ := h
      exact ⟨a, vs, _, rfl, .inl (sqOf (sm _ _ h1)), h2.os⟩
  | _ => cases e
theorem gIx_seq {a d : D} {i : Int} (e : gIx a (.int i) = some d) : (∃ xs, itemsD a = some xs ∧ atI xs i = some d) ∨ ∃ z c, a = .str z ∧ z.length ≤ 1000000 ∧ atI z.cps.toList i = some c ∧ d = .str ⟨#[c]⟩ := by
  cases a with
  | tup xs => exact .inl ⟨xs, rfl, e⟩
  | cst xs => exact .inl ⟨xs, rfl, e⟩
  | lst m xs => exact .inl ⟨xs, rfl, e⟩
  | tpo xs => exact .inl ⟨xs, rfl, e⟩
  | str z =>
    have e' : (if z.length ≤ 1000000 then (atI z.cps.toList i).map fun c => D.str ⟨#[c]⟩ else none) = some d := e
    by_cases c : z.length ≤ 1000000
    · rw [if_pos c] at e'
      cases e2 : atI z.cps.toList i with
      | none => rw [e2] at e'; cases e'
      | some c' =>
        rw [e2] at e'
        exact .inr ⟨z, c', rfl, c, e2, (Option.some.inj e').symm⟩
    · rw [if_neg c] at e'; cases e'
  | _ => cases e
theorem sIx : OpS K (rIx K) gIx := by
  intro ca F H x y a b d f1 f2 Q sm hx hy e q
  cases b with
  | int i =>
    rcases gIx_seq e with ⟨xs, e1, e2⟩ | ⟨z, c, rfl, hz, e2, rfl⟩
    · obtain ⟨p, vs, g, rfl, h1, h2⟩ := seq_of sm hx e1
      obtain ⟨j, v, g1, g2, g3⟩ := atI_get h2.length e2
      obtain ⟨v', g', k1, k2⟩ := h2.get g1
      rw [g2] at k1; cases k1
      rcases h1 with h1 | h1
      · exact .inl ⟨p, vs, i, v, rfl, hy.1, h1, g3, q v _ k2⟩
      · exact .inr (.inl ⟨p, vs, i, v, rfl, hy.1, h1, g3, q v _ k2⟩)
    · exact .inr (.inr ⟨z, i, c, hx.1, hy.1, le_sizeLine hz, e2, q (.str ⟨#[c]⟩) _ (Rep.o (d := .str _) rfl)⟩)
  | _ => cases e
def gLen : List D → Option D
  | [.str z] => if z.length ≤ 1000000 then some (.int (z.length : Nat)) else none
  | [a] => (itemsD a).map fun xs => .int (xs.length : Nat)
  | _ => none
theorem repOs1 {ca : Str → Addr} {F H : Hp} {a : D} {xs : List V} {f : Ct} (h : RepOs K ca F H [a] xs f) : ∃ x g, xs = [x] ∧ RepO K ca F H a x g := by
  obtain ⟨x, r, f1, f2, rfl, h1, ⟨rfl, _⟩, _⟩ := h
  exact ⟨x, f1, rfl, h1⟩
theorem repOs2 {ca : Str → Addr} {F H : Hp} {a b : D} {xs : List V} {f : Ct} (h : RepOs K ca F H [a, b] xs f) : ∃ x y g g', xs = [x, y] ∧ RepO K ca F H a x g ∧ RepO K ca F H b y g' := by
  obtain ⟨x, r, f1, f2, rfl, h1, h2, _⟩ := h
  obtain ⟨y, g', rfl, h3⟩ := repOs1 h2
  exact ⟨x, y, f1, g', rfl, h1, h3⟩
theorem sLen : CallS K (fun xs H Q => ∃ x n, xs = [x] ∧ LenV K x H n ∧ Q (.int n) H) gLen := by
  intro ca F H xs as d f1 Q sm hx e q
  unfold gLen at e
  split at e
  · rename_i z
    obtain ⟨x, g, rfl, h⟩ := repOs1 hx
    cases (show x = .str z from h.1)
    by_cases c : z.length ≤ 1000000
    · rw [if_pos c] at e; cases e
      exact ⟨_, z.length, rfl, ⟨le_sizeLine c, rfl⟩, q (.int _) _ (Rep.o (d := .int _) rfl)⟩
    · rw [if_neg c] at e; cases e
  · rename_i a _
    obtain ⟨x, g, rfl, h⟩ := repOs1 hx
    cases ei : itemsD a with
    | none => rw [ei] at e; cases e
    | some ys =>
      rw [ei] at e
      cases (show some (D.int (ys.length : Nat)) = some d from e)
      obtain ⟨p, vs, g, rfl, h1, h2⟩ := seq_of sm h ei
      refine ⟨_, ys.length, rfl, ?_, q (.int _) _ (Rep.o (d := .int _) rfl)⟩
      rcases h1 with h1 | h1
      · exact .inl ⟨vs, h1, h2.length.symm⟩
      · exact .inr ⟨vs, h1, h2.length.symm⟩
  · cases e
def gAbs : List D → Option D
  | [.int i] => some (.int (if i < 0 then -i else i))
  | _ => none
theorem sAbs : CallS K (fun xs H Q => ∃ i, xs = [.int i] ∧ Q (.int (if i < 0 then -i else i)) H) gAbs := by
  intro ca F H xs as d f1 Q sm hx e q
  unfold gAbs at e
  split at e
  · rename_i i
    cases e
    obtain ⟨x, g, rfl, h⟩ := repOs1 hx
    cases (show x = .int i from h.1)
    exact ⟨i, rfl, q (.int _) _ (Rep.o (d := .int _) rfl)⟩
  · cases e
def lstD : D → Option (List D)
  | .lst _ xs => some xs
  | .cst xs => some xs
  | _ => none
theorem lst_of {ca : Str → Addr} {F H : Hp} {a : D} {x : V} {f : Ct} {xs : List D} (sm : Same F H) (h : RepO K ca F H a x f) (e : lstD a = some xs) : ∃ p vs g, x = .ref p ∧ SqL K H p vs ∧ RepOs K ca F H xs vs g := by
  cases a with
  | cst ds =>
    cases (show some ds = some xs from e)
    obtain ⟨⟨a, vs, rfl, h1, h2⟩, _⟩ := h
    exact ⟨a, vs, _, rfl, sm.seq h1, h2.os⟩
  | lst m ds =>
    cases (show some ds = some xs from e)
    cases m with
    | true =>
      obtain ⟨a, vs, g, rfl, h1, h2, _⟩ := h
      exact ⟨a, vs, g, rfl, sqOf h1, h2⟩
    | false =>
      obtain ⟨⟨a, vs, rfl, h1, h2⟩, _⟩ := h
      exact ⟨a, vs, _, rfl, sqOf (sm _ _ h1), h2.os⟩
  | _ => cases e
def tyOfD : D → Option String
  | .non => none | .bl _ => some "bool" | .int _ => some "int" | .str _ => some "str"
  | .tup _ => some "tuple" | .lst _ _ => some "list" | .cst _ => some "list" | .ty _ => none | .obj _ _ _ _ => none | .val _ => none | .exc _ => none | .tpo _ => some "tuple" | .dct _ _ _ => none
def gIsi : List D → Option D
  | [a, .ty u] => match tyOfD a with
    | some t => if t ∈ ["bool", "int", "str", "tuple", "list"] ∧ u ∈ ["bool", "int", "str", "tuple", "list"] then some (.bl (decide (t = u) || (decide (t = "bool") && decide (u = "int")))) else none
    | none => none
  | _ => none
theorem kitOne_isi {K : PySem.W.Frag} {t u : String} (h : t ∈ ["bool", "int", "str", "tuple", "list"]) (k : u ∈ ["bool", "int", "str", "tuple", "list"]) : PySem.W.kitOne K (.type t) (.type u) = some (decide (t = u) || (decide (t = "bool") && decide (u = "int"))) := by
  simp only [List.mem_cons, List.not_mem_nil, or_false] at h k
  rcases h with rfl | rfl | rfl | rfl | rfl <;> rcases k with rfl | rfl | rfl | rfl | rfl <;> exact kit_ty (by decide +kernel)
theorem ty_of {ca : Str → Addr} {F H : Hp} {a : D} {x : V} {f : Ct} {t : String} (sm : Same F H) (h : RepO K ca F H a x f) (e : tyOfD a = some t) : TyX K H x (.type t) := by
  have L : ∀ {p vs}, SqL K H p vs → TyX K H (.ref p) (.type "list") := fun {p vs} s => by
    rcases s with (s | ⟨o, s⟩) | ⟨o, its, n, k1, k2, _⟩
    · exact .base (.lst s)
    · exact .base (.frz s)
    · exact .kList k1 k2
  have T : ∀ {p vs}, SqT K H p vs → TyX K H (.ref p) (.type "tuple") := fun {p vs} s => by
    rcases s with (s | ⟨o, s⟩) | ⟨o, its, n, k1, k2, _⟩
    · exact .base (.tup s)
    · exact .fTuple s
    · exact .kTuple k1 k2
  cases a with
  | bl b => cases (show x = .bl b from h.1); cases (show some "bool" = some t from e); exact .base (.bl b)
  | int b => cases (show x = .int b from h.1); cases (show some "int" = some t from e); exact .base (.int b)
  | str b => cases (show x = .str b from h.1); cases (show some "str" = some t from e); exact .base (.str b)
  | tup ds =>
    cases (show some "tuple" = some t from e)
    obtain ⟨⟨a, vs, rfl, h1, h2⟩, _⟩ := h
    exact T (sqT_same sm h1)
  | cst ds =>
    cases (show some "list" = some t from e)
    obtain ⟨p, vs, g, rfl, h1, h2⟩ := lst_of sm h rfl
    exact L h1
  | lst m ds =>
    cases (show some "list" = some t from e)
    obtain ⟨p, vs, g, rfl, h1, h2⟩ := lst_of sm h rfl
    exact L h1
  | tpo ds =>
    cases (show some "tuple" = some t from e)
    obtain ⟨a, vs, rfl, h1, h2⟩ := h
    exact T (sqT_same sm h1)
  | _ => cases e
theorem sIsi : CallS K (rIsi K) gIsi := by
  intro ca F H xs as d f1 Q sm hx e q
  unfold gIsi at e
  split at e
  · rename_i a u
    obtain ⟨x, y, g, g', rfl, h, h'⟩ := repOs2 hx
    cases (show y = .ty u from h'.1)
    split at e
    · rename_i t et
      by_cases c : t ∈ ["bool", "int", "str", "tuple", "list"] ∧ u ∈ ["bool", "int", "str", "tuple", "list"]
      · rw [if_pos c] at e
        cases e
        exact ⟨x, .ty u, _, _, _, rfl, .ty u, ty_of sm h et, kitOne_isi c.1 c.2, q (.bl _) _ (Rep.o (d := .bl _) rfl)⟩
      · rw [if_neg c] at e; cases e
    · cases e
  · cases e
def gInS (neg : Bool) (a b : D) : Option D := match a, b with
  | .str c, .str z => match c.cps.toList with
    | [k] => some (.bl (if neg then !decide (k ∈ z.cps.toList) else decide (k ∈ z.cps.toList)))
    | _ => none
  | _, _ => none
theorem str_one {c : Str} {k : Nat} (h : c.cps.toList = [k]) : c = ⟨#[k]⟩ := by
  cases c with
  | mk cps =>
    have : cps = #[k] := by
      apply Array.toList_inj.mp
      exact h
    rw [this]
theorem sNotInS : OpS K (fun x y H Q => ∃ (c : Nat) (z : Str), x = .str ⟨#[c]⟩ ∧ y = .str z ∧ Q (.bl (!decide (c ∈ z.cps.toList))) H) (gInS true) := by
  intro ca F H x y a b d f1 f2 Q sm hx hy e q
  unfold gInS at e
  split at e
  · rename_i c z
    split at e
    · rename_i k h
      cases e
      exact ⟨k, z, by rw [(show x = .str c from hx.1), str_one h], hy.1, q (.bl _) _ (Rep.o (d := .bl _) rfl)⟩
    · cases e
  · cases e
end
end Bn
namespace Bn
open PySem PySem.Spec PyProof.Rows L2
section
variable {X : Cx} {B : Bx} {W : WX}
def rdP (K : PySem.W.Frag) (B : Bx) (W : WX) (p : Env → R (Option Int)) : TO := fun σ H Q => ∃ F τ vs ds, StT K B F H σ τ vs ds ∧ post (fun o τ' => ∀ F' H', StT K B F' H' σ τ' vs ds → Q o H') (exW K B W σ vs ds) (p τ)
theorem PO.imp {e : Option Expr} {t t' : TO} (h : PO X e t) (k : ∀ σ H Q, t' σ H Q → t σ H Q) : PO X e t' := ⟨fun p s σ H Q I q => h.run p s σ H Q I (k _ _ _ q)⟩
def pNone : Env → R (Option Int) := fun τ => .ok none τ
def pSome (m : ME) : Env → R (Option Int) := fun τ => (m τ).bind fun d τ1 => match d with
  | .int i => .ok (some i) τ1
  | _ => .bad
theorem pe_none : PO X none (rdP X.K B W pNone) := PO.imp po_none fun σ H Q ⟨F, τ, vs, ds, s, k⟩ => k F H s
theorem pe_some {e : Expr} {m : ME} (h : PE X e (rdE X.K B W m)) : PO X (some e) (rdP X.K B W (pSome m)) := PO.imp (po_some h) fun σ H Q ⟨F, τ, vs, ds, s, k⟩ => by
  refine ⟨F, τ, vs, ds, s, post_imp (post_bind k) (fun d τ1 q v F1 H1 s1 => ?_) fun _ _ q => q⟩
  cases d with
  | int i => exact ⟨i, s1.topF rfl, q F1 H1 s1.pop⟩
  | _ => exact False.elim q
def cutL {α : Type} (xs : List α) (lo hi : Option Int) : List α := (xs.drop (HT.sIx xs.length 0 lo)).take (HT.sIx xs.length xs.length hi - HT.sIx xs.length 0 lo)
theorem RepL.drop {K : PySem.W.Frag} {ca : Str → Addr} {F : Hp} : ∀ {ds : List D} {vs : List V} (n : Nat), RepL K ca F ds vs → RepL K ca F (ds.drop n) (vs.drop n)
  | [], vs, n, h => by cases (show vs = [] from h); simp; exact rfl
  | d :: ds, vs, 0, h => h
  | d :: ds, _, n + 1, ⟨v, r, h1, h2, h3⟩ => by subst h1; exact h3.drop n
theorem RepL.take {K : PySem.W.Frag} {ca : Str → Addr} {F : Hp} : ∀ {ds : List D} {vs : List V} (n : Nat), RepL K ca F ds vs → RepL K ca F (ds.take n) (vs.take n)
  | [], vs, n, h => by cases (show vs = [] from h); simp; exact rfl
  | d :: ds, vs, 0, h => rfl
  | d :: ds, _, n + 1, ⟨v, r, h1, h2, h3⟩ => by subst h1; exact ⟨v, r.take n, rfl, h2, h3.take n⟩
theorem RepL.cut {K : PySem.W.Frag} {ca : Str → Addr} {F : Hp} {ds : List D} {vs : List V} (h : RepL K ca F ds vs) (lo hi : Option Int) : RepL K ca F (cutL ds lo hi) (cutV vs lo hi) := by
  unfold cutL cutV
  rw [h.length]
  exact (h.drop _).take _
def slR (d : D) (p r : Env → R (Option Int)) (f : D → Option Int → Option Int → Option D) (τ : Env) : R D := (p τ).bind fun lo τ1 => (r τ1).bind fun hi τ2 => match f d lo hi with
  | some x => .ok x τ2
  | none => .bad
def cutSd (d : D) (lo hi : Option Int) : Option D := match d with
  | .str z => if z.length ≤ 1000000 then some (.str (cutS z lo hi)) else none
  | _ => none
def eSlice (f : D → Option Int → Option Int → Option D) (m : ME) (p r : Env → R (Option Int)) : ME := fun τ => (m τ).bind fun d τ1 => slR (freeze d) p r f τ1
theorem e_slice {e : Expr} {lo hi : Option Expr} {p2 pos : Pos} {m : ME} {p r : Env → R (Option Int)} {rd : V → Option Int → Option Int → Hp → VK → Prop} {f : D → Option Int → Option Int → Option D} (hr : SlR X rd)
    (hf : ∀ {F H σ τ v vs d ds l h x Q}, isFz d = true → f d l h = some x → StT X.K B F H σ τ (v :: vs) (d :: ds) → (∀ u F' H', StT X.K B F' H' σ τ (u :: vs) (x :: ds) → Q u H') → rd v l h H Q)
    (he : PE X e (rdE X.K B W m)) (hl : PO X lo (rdP X.K B W p)) (hu : PO X hi (rdP X.K B W r)) : PE X (.Subscript e (.Slice lo hi none p2) pos) (rdE X.K B W (eSlice f m p r)) :=
  PE.imp (pe_slice hr he hl hu) fun σ H Q ⟨F, τ, vs, ds, s, k⟩ => by
    refine ⟨F, τ, vs, ds, s, post_imp (post_bind k) (fun d τ1 q v F1 H1 s1 => ?_) fun _ _ q => q⟩
    obtain ⟨F2, s2⟩ := s1.freeze1
    refine ⟨F2, τ1, _, _, s2, post_imp (post_bind q) (fun l τ2 q F3 H3 s3 => ?_) fun c τ2 q F3 H3 s3 => q F3 H3 s3.pop⟩
    refine ⟨F3, τ2, _, _, s3, post_imp (post_bind q) (fun h τ3 q F4 H4 s4 => ?_) fun c τ2 q F3 H3 s3 => q F3 H3 s3.pop⟩
    cases ef : f (freeze d) l h with
    | none => rw [ef] at q; exact False.elim q
    | some x =>
      rw [ef] at q
      exact hf (freeze_fz d) ef s4 q
theorem e_sliceS {e : Expr} {lo hi : Option Expr} {p2 pos : Pos} {m : ME} {p r : Env → R (Option Int)} (he : PE X e (rdE X.K B W m)) (hl : PO X lo (rdP X.K B W p)) (hu : PO X hi (rdP X.K B W r)) : PE X (.Subscript e (.Slice lo hi none p2) pos) (rdE X.K B W (eSlice cutSd m p r)) :=
  e_slice sl_str (fun {F H σ τ v vs d ds l h x Q} z e s k => by
    cases d with
    | str zz =>
      by_cases hz : zz.length ≤ 1000000
      · have e' : (if zz.length ≤ 1000000 then some (D.str (cutS zz l h)) else none) = some x := e
        rw [if_pos hz] at e'
        cases e'
        exact ⟨zz, s.topF rfl, le_sizeLine hz, k _ _ _ (s.pop.push (d := .str _) rfl)⟩
      · have e' : (if zz.length ≤ 1000000 then some (D.str (cutS zz l h)) else none) = some x := e
        rw [if_neg hz] at e'; cases e'
    | _ => cases e) he hl hu
structure Kc (K : PySem.W.Frag) (mg : Str → Option Value) (x : Str) (d : D) : Prop where
  ex : ∃ v u, mg x = some u ∧ RelV v u ∧ ∀ ca F, Rep K ca F d v
theorem z_k {x : Str} {d : D} {pos : Pos} (k : Kc X.K X.mg x d) (hg : Gl X x) (hd : (x == ("__debug__" : Str)) = false := by decide) : PE X (.Name x pos) (rdZ X.K B (zC d)) := by
  obtain ⟨v, u, h1, h2, h3⟩ := k.ex
  exact z_c (pe_glob hg h1 h2 hd) fun F => h3 _ F
theorem kc_str {K : PySem.W.Frag} {mg : Str → Option Value} {x s : Str} {t : Tok} (h : mg x = some (.str s t)) : Kc K mg x (.str s) := ⟨.str s, _, h, ⟨t, rfl⟩, fun _ _ => rfl⟩
end
end Bn
namespace Bn
open PySem PySem.Spec PyProof.Rows L2
abbrev Bx.withE (B : Bx) (i : Nat) (a : Addr) : Bx := { B with io := (i, .ref a) :: B.io }
theorem ioE {B : Bx} {i j : Nat} {a : Addr} (h : i ≠ j) (k : ioFree B j := by intro p hp; cases hp) : ioFree (B.withE i a) j := fun p hp => by
  rcases List.mem_cons.mp hp with rfl | hp
  · exact h
  · exact k p hp
def endAs (i : Nat) (r : SR) : SR := match r with
  | .nx τ => .nx (τ.set i none)
  | .rt d τ => .rt d τ
  | .bk τ => .bk (τ.set i none)
  | .ct τ => .ct (τ.set i none)
  | _ => .bad
def tryAs (i : Nat) (o : Option Bool) (c : Str) (τ : Env) (su : Str → MS) : SR := match o with
  | some true => if i < τ.length then endAs i (su c (τ.set i none)) else .bad
  | some false => .ex c τ
  | none => .bad
def sTryAs (i : Nat) (sub : Str → Option Bool) (b : MS) (su : Str → MS) : MS := fun τ => match b τ with
  | .ex c τ' => tryAs i (sub c) c τ' su
  | .nx τ' => .nx τ'
  | .rt d τ' => .rt d τ'
  | .bk τ' => .bk τ'
  | .ct τ' => .ct τ'
  | .bad => .bad
section
variable {X : Cx} {B : Bx} {W : WX}
theorem StT.withE {K : PySem.W.Frag} {F H : Hp} {σ : L2.St} {τ : Env} {vs : List V} {ds : List D} {i : Nat} {a : Addr} (s : StT K B F H σ τ vs ds) (hi : i < τ.length) (hf : ioFree B i) : StT K (B.withE i a) F H (σ.set i (some (.ref a))) (τ.set i none) vs ds := by
  have s1 := s.forget (i := i)
  have io : IoOk B σ := by obtain ⟨_, _, _, _, _, io⟩ := s; exact io
  have hl : σ.length = τ.length := by obtain ⟨_, _, A, _⟩ := s; exact A.length
  have s2 : StT K B F H (σ.set i (some (.ref a))) (τ.set i none) vs ds := s1.reset (by simp) (fun j d h => by
    have : j ≠ i := fun e => by
      subst e
      rw [List.getElem?_set_self hi] at h; cases h
    rw [List.getElem?_set_ne this.symm]) fun p hp => by rw [List.getElem?_set_ne (fun e => hf p hp e.symm)]; exact io p hp
  obtain ⟨f1, f2, A, b, w, io2⟩ := s2
  refine ⟨f1, f2, A, b, ⟨w.nd, w.dF, w.dR, w.sF, w.sR, w.s0, w.fr⟩, fun p hp => ?_⟩
  rcases List.mem_cons.mp hp with rfl | hp
  · rw [List.getElem?_set_self (by omega)]
  · exact io2 p hp
theorem StT.outE {K : PySem.W.Frag} {F H : Hp} {σ : L2.St} {τ : Env} {vs : List V} {ds : List D} {i : Nat} {a : Addr} (s : StT K (B.withE i a) F H σ τ vs ds) : StT K B F H σ τ vs ds := by
  obtain ⟨f1, f2, A, b, w, io2⟩ := s
  exact ⟨f1, f2, A, b, ⟨w.nd, w.dF, w.dR, w.sF, w.sR, w.s0, w.fr⟩, fun p hp => io2 p (List.mem_cons_of_mem _ hp)⟩
theorem StT.clearE {K : PySem.W.Frag} {F H : Hp} {σ : L2.St} {τ : Env} {vs : List V} {ds : List D} {i : Nat} (s : StT K B F H σ τ vs ds) (hf : ioFree B i) : StT K B F H (σ.set i none) (τ.set i none) vs ds := by
  have s1 := s.forget (i := i)
  have io : IoOk B σ := by obtain ⟨_, _, _, _, _, io⟩ := s; exact io
  have hl : σ.length = τ.length := by obtain ⟨_, _, A, _⟩ := s; exact A.length
  exact s1.reset (by simp) (fun j d h => by
    have : j ≠ i := fun e => by
      subst e
      by_cases hj : j < τ.length
      · rw [List.getElem?_set_self hj] at h; cases h
      · rw [List.getElem?_eq_none (by simp; omega)] at h; cases h
    rw [List.getElem?_set_ne this.symm]) fun p hp => by rw [List.getElem?_set_ne (fun e => hf p hp e.symm)]; exact io p hp
theorem s_tryAs {i : Nat} {x n : Str} {cv : Value} {body suite : List Stmt} {b₀ : Stmt} {np pos pos' : Pos} {b : MS} {su : Str → MS} (c : XOk X W) (hN : X.N.Nodup) (hi : X.N[i]? = some n) (hln : X.env.kindOf n = some .local) (sub : Str → Option Bool) (hn : Names X x cv) (hsub : ∀ y t, sub y = some t → PySem.W.exmOne X.K (.ref (B.ca y)) cv = some t) (hs : X.stack = X.env :: X.outer) (hf : X.env.frame = some X.env.locals)
    (hb : ∀ (W' : WX) (pn : List (Addr × Obj)) (xe : Value → Shared → Prop), XOk (X.tr pn xe) W' → PSs (X.tr pn xe) body (rdS X.K B W' b))
    (hsu : ∀ (a : Addr) (oe : Obj) (y : Str) (pn : List (Addr × Obj)), Zc (.ref (B.ca y)) none oe → (∃ vs, oe.data = .fields vs) → PSs (X.suite a ((a, oe) :: pn)) (b₀ :: suite) (rdS X.K (B.withE i a) W0 (su y))) (hio : ioFree B i := by intro p hp; cases hp) :
    PS X (.Try body [.ExceptHandler (some (.Name x np)) (some n) (b₀ :: suite) pos'] [] [] pos) (rdS X.K B W (sTryAs i sub b su)) :=
  PS.imp (ps_try_as (tb := fun W' => rdS X.K B W' b) (ts := fun a cls d => fun D σ H => ∃ y, cls = .ref (B.ca y) ∧ d = none ∧ rdS X.K (B.withE i a) W0 (su y) D σ H) hs hf hN hi hln hn c.tk (fun W' pn xe tk hp => hb W' pn xe ⟨tk, hp, c.calm⟩)
    fun a oe cls d pn hz hv => ⟨fun pins s σ H D I h => by
      obtain ⟨y, rfl, rfl, h⟩ := h
      exact (hsu a oe y pn hz hv).run pins s σ H D I h⟩) fun D σ H ⟨F, τ, vs, ds, s, p⟩ => by
    refine ⟨F, τ, vs, ds, s, ?_⟩
    unfold sTryAs at p
    cases e : b τ with
    | ex y τ' =>
      rw [e] at p
      intro σ' F' H' s'
      cases es : sub y with
      | none => simp only [es, tryAs] at p; exact p.elim
      | some t =>
        simp only [es] at p
        refine ⟨t, hsub y t es, fun ht a ha => ?_, fun ht => ?_⟩
        · subst ht
          by_cases hl : i < τ'.length
          · simp only [tryAs, hl, if_true] at p
            refine ⟨y, rfl, rfl, F', _, vs, ds, s'.withE hl hio, ?_⟩
            cases e2 : su y (τ'.set i none) with
            | nx τ2 => rw [e2] at p; exact fun σ2 F2 H2 s2 => p _ F2 H2 (s2.outE.clearE hio)
            | rt d τ2 => rw [e2] at p; exact fun v σ2 F2 H2 s2 => p v σ2 F2 H2 s2.outE
            | bk τ2 => rw [e2] at p; exact fun σ2 F2 H2 s2 => p _ F2 H2 (s2.outE.clearE hio)
            | ct τ2 => rw [e2] at p; exact fun σ2 F2 H2 s2 => p _ F2 H2 (s2.outE.clearE hio)
            | ex c2 τ2 => rw [e2] at p; exact p.elim
            | bad => rw [e2] at p; exact p.elim
          · simp only [tryAs, hl, if_false] at p; exact p.elim
        · subst ht; exact p σ' F' H' s'
    | _ => rw [e] at p; exact p
def eIs (o : Option Bool) : ME := fun τ => match o with
  | some b => .ok (.bl b) τ
  | none => .bad
theorem e_isE {i : Nat} {a : Addr} {oe : Obj} {pn : List (Addr × Obj)} {y : Str} {n A : Str} {vA : V} {cvA : Value} {o : Option Bool} {p p1 p2 pos : Pos} (hz : Zc (.ref (B.ca y)) none oe) (hv : ∃ vs, oe.data = .fields vs)
    (he : PE (X.suite a ((a, oe) :: pn)) (.Name n p1) (tVar i)) (hA : PE (X.suite a ((a, oe) :: pn)) (.Name A p2) (tC vA)) (hcv : ∀ u, RelV vA u → u = cvA) (hC : ∀ t, o = some t → ExcC X.K (B.ca y) ∧ PySem.W.kitOne X.K (.ref (B.ca y)) cvA = some t)
    (hg : Gl (X.suite a ((a, oe) :: pn)) "isinstance") (hm : X.mg "isinstance" = none)
    (hs1 : starEach [.Name n p1, .Name A p2] (X.suite a ((a, oe) :: pn)).env = (false, eval (.Name n p1) (X.suite a ((a, oe) :: pn)).env) :: starEach [.Name A p2] (X.suite a ((a, oe) :: pn)).env := by rfl)
    (hs2 : starEach [.Name A p2] (X.suite a ((a, oe) :: pn)).env = (false, eval (.Name A p2) (X.suite a ((a, oe) :: pn)).env) :: starEach [] (X.suite a ((a, oe) :: pn)).env := by rfl)
    (hpl : (backTo pos (starEach [.Name A p2] (X.suite a ((a, oe) :: pn)).env)).any (·.1) = false := by rfl) :
    PE (X.suite a ((a, oe) :: pn)) (.Call (.Name "isinstance" p) [.Name n p1, .Name A p2] [] pos) (rdE X.K (B.withE i a) W0 (eIs o)) := by
  cases o with
  | none => exact ⟨fun _ _ _ _ _ _ ⟨F, τ, vs, ds, s, h⟩ => False.elim h⟩
  | some t =>
    obtain ⟨C, hk⟩ := hC t rfl
    refine PE.imp (pe_callB (call_isE C hz hv) hg hm (by decide +kernel) (pa_cons he (pa_cons hA pa_nil hs2) hs1) (by decide) (by decide) hs1 hpl) fun σ H Q ⟨F, τ, vs, ds, s, h⟩ => ?_
    have io : IoOk (B.withE i a) σ := by obtain ⟨_, _, _, _, _, io⟩ := s; exact io
    exact ⟨.ref a, io (i, .ref a) List.mem_cons_self, vA, cvA, t, rfl, hcv, hk, h (.bl t) F H (s.push (d := .bl t) rfl)⟩
end
theorem kit_same {K : PySem.W.Frag} {a : Addr} : PySem.W.kitOne K (.ref a) (.ref a) = some true := by
  unfold PySem.W.kitOne
  rw [if_pos (by simp)]
theorem kit_type {K : PySem.W.Frag} {a : Addr} {T : String} {b : Bool} (hm : PySem.W.kitMeta T = true) (h : PySem.W.subIn K (.ref a) (.type T) = some b) : PySem.W.kitOne K (.ref a) (.type T) = some b := by
  unfold PySem.W.kitOne
  rw [if_neg (by intro z; cases z)]
  unfold PySem.W.kitCls
  simp only [hm, if_true]
  exact h
theorem kit_ref {K : PySem.W.Frag} {a x : Addr} {b : Bool} (h1 : PySem.W.hasDictIn K x = true) (ht : PySem.W.typeIn K (.ref x) = some (.type "type")) (h4 : PySem.W.subIn K (.ref a) (.ref x) = some b) (hb : b = true ∨ (a == x) = false) : PySem.W.kitOne K (.ref a) (.ref x) = some b := by
  obtain ⟨cd, hc, _⟩ := PySem.W.any_some h1
  have e2 : ((PySem.W.clsIn K x).isSome && PySem.W.typeIn K (.ref x) == some (.type "type")) = true := by rw [hc, ht] <;> rfl
  unfold PySem.W.kitOne
  by_cases e : a = x
  · subst e
    rw [if_pos (by simp)]
    rcases hb with rfl | hb
    · rfl
    · simp at hb
  · rw [if_neg (by simp; exact e)]
    show (if ((PySem.W.clsIn K x).isSome && PySem.W.typeIn K (.ref x) == some (.type "type")) = true then PySem.W.subIn K (.ref a) (.ref x) else none) = some b
    rw [if_pos e2]
    exact h4
end Bn
namespace Bn
open PySem PySem.Spec PyProof.Rows L2
end Bn
namespace Bn
open PySem PySem.Spec PyProof.Rows L2
section
variable {X : Cx} {C : Addr}
end
def spI (ca : Str → Addr) (c : Str) (ns : List Str) : Sp := fun vs H Q _ => ∃ a dx ws, vs = .ref a :: ws ∧ ws.length = ns.length ∧ H a = some (.ins (ca c) dx []) ∧ Q .non (upd H a (.ins (ca c) dx (ns.zip ws)))
section
variable {P : Program} {w : World} {K : PySem.W.Frag} {mg : Str → Option Value} {base : Heap} {ca : Str → Addr}
structure MkO (P : Program) (w : World) (K : PySem.W.Frag) (mg : Str → Option Value) (base : Heap) (ca : Str → Addr) (x : Str) (ns : List Str) : Prop where
  ex : ∃ f fd ps, Mk K (ca x) f ∧ mg x = some (.ref (ca x)) ∧ Binds K fd ps [] ∧ FnOk P w K mg base (L2.CX P w) 1 f fd ps (spI ca x ns)
structure MFo (P : Program) (w : World) (K : PySem.W.Frag) (mg : Str → Option Value) (base : Heap) (ca : Str → Addr) (j : Nat) (c m : Str) (g : List D → CR) : Prop where
  ex : ∃ k f fd ps, k ≤ j ∧ Meth K (ca c) m f ∧ Binds K fd ps [] ∧ FnOk P w K mg base (L2.CX P w) k f fd ps (spP K ca g)
  cl : Cls K (ca c)
theorem MFo.mono {i j : Nat} {c m : Str} {g : List D → CR} (h : MFo P w K mg base ca i c m g) (k : i ≤ j) : MFo P w K mg base ca j c m g := by
  obtain ⟨⟨k', f, fd, ps, h1, h2⟩, cl⟩ := h
  exact ⟨⟨k', f, fd, ps, Nat.le_trans h1 k, h2⟩, cl⟩
def MAll (P : Program) (w : World) (K : PySem.W.Frag) (mg : Str → Option Value) (base : Heap) (ca : Str → Addr) (j : Nat) (m : Str) : List (Str × (List D → CR)) → Prop
  | [] => True
  | p :: r => MFo P w K mg base ca j p.1 m p.2 ∧ MAll P w K mg base ca j m r
theorem MAll.get {j : Nat} {m : Str} : ∀ {As : List (Str × (List D → CR))} {c : Str} {g : List D → CR}, MAll P w K mg base ca j m As → As.lookup c = some g → MFo P w K mg base ca j c m g
  | [], _, _, _, e => by cases e
  | (c', g') :: r, c, g, ⟨h1, h2⟩, e => by
    rw [List.lookup_cons] at e
    by_cases q : c = c'
    · subst q
      simp at e; subst e; exact h1
    · have q' : (c == c') = false := by simpa using q
      rw [q'] at e
      exact h2.get e
end
section
variable {X : Cx} {B : Bx} {W : WX}
structure IsO (K : PySem.W.Frag) (C A : Addr) (b : Bool) : Prop where
  cl : Cls K C
  ha : PySem.W.findIn K (.ref C) "__class__" = some (some (.builtin "object.__class__"))
  hn : PySem.W.specialIn K (.builtin "object.__class__") "__get__" = some (some (.builtin "getset_descriptor.__get__"))
  htk : PySem.W.takesIn K (.builtin "object.__class__") = some true
  hm : PySem.W.mroIn K C (.type "object") = some true
  ko : PySem.W.kitOne K (.ref C) (.ref A) = some b
theorem RepL.append {K : PySem.W.Frag} {ca : Str → Addr} {F : Hp} : ∀ {xs ys : List D} {us vs : List V}, RepL K ca F xs us → RepL K ca F ys vs → RepL K ca F (xs ++ ys) (us ++ vs)
  | [], _, _, _, h, k => by cases (show _ = [] from h); exact k
  | x :: xs, ys, _, vs, ⟨v, r, e, h1, h2⟩, k => by subst e; exact ⟨v, r ++ vs, rfl, h1, h2.append k⟩
end
end Bn
namespace Bn
open PySem PySem.Spec PyProof.Rows L2
mutual
def clean : D → Bool
  | .non => true | .bl _ => true | .int _ => true | .str _ => true | .ty _ => true
  | .tup xs => cleanL xs
  | .lst m xs => m && cleanL xs
  | .cst _ => false
  | .obj m _ _ xs => m && cleanL xs
  | .val _ => false
  | .exc _ => false
  | .tpo xs => cleanL xs
  | .dct m _ xs => m && cleanL xs
def cleanL : List D → Bool
  | [] => true
  | x :: xs => clean x && cleanL xs
end
section
variable {K : PySem.W.Frag} {ca : Str → Addr} {F F' H H' : Hp}
mutual
theorem Rep.back (k : ∀ a xs, SqT K F a xs → SqT K F' a xs) : ∀ (d : D) (v : V), clean d = true → Rep K ca F d v → Rep K ca F' d v
  | .non, _, _, h => h
  | .bl _, _, _, h => h
  | .int _, _, _, h => h
  | .str _, _, _, h => h
  | .ty _, _, _, h => h
  | .tup ds, v, c, h => by
    obtain ⟨a, vs, h1, h2, h3⟩ := h
    exact ⟨a, vs, h1, k a vs h2, RepL.back k ds vs c h3⟩
  | .lst true _, _, _, h => h.elim
  | .lst false xs, _, c, _ => by cases (show (false && cleanL xs) = true from c)
  | .cst _, _, c, _ => by cases (show false = true from c)
  | .obj true _ _ _, _, _, h => h.elim
  | .obj false _ _ xs, _, c, _ => by cases (show (false && cleanL xs) = true from c)
  | .val _, _, c, _ => by cases (show false = true from c)
  | .exc _, _, c, _ => by cases (show false = true from c)
  | .tpo _, _, _, h => h.elim
  | .dct true _ _, _, _, h => h.elim
  | .dct false _ xs, _, c, _ => by cases (show (false && cleanL xs) = true from c)
theorem RepL.back (k : ∀ a xs, SqT K F a xs → SqT K F' a xs) : ∀ (ds : List D) (vs : List V), cleanL ds = true → RepL K ca F ds vs → RepL K ca F' ds vs
  | [], _, _, h => h
  | d :: ds, _, c, ⟨v, r, e, h1, h2⟩ => by
    have c' : (clean d && cleanL ds) = true := c
    rw [Bool.and_eq_true] at c'
    exact ⟨v, r, e, Rep.back k d v c'.1 h1, RepL.back k ds r c'.2 h2⟩
end
mutual
theorem RepO.back (k : ∀ a xs, SqT K F a xs → SqT K F' a xs) : ∀ (d : D) (v : V) (f : Ct), clean d = true → RepO K ca F H d v f → RepO K ca F' H d v f
  | .lst true ds, v, f, c, h => by
    obtain ⟨a, vs, g, h1, h2, h3, h4⟩ := h
    exact ⟨a, vs, g, h1, h2, RepOs.back k ds vs g (by have c' : (true && cleanL ds) = true := c; simpa using c') h3, h4⟩
  | .obj true _ ns ds, v, f, c, h => by
    obtain ⟨a, dx, fs, vs, g, h1, h2, h2', h2'', h3, h4⟩ := h
    exact ⟨a, dx, fs, vs, g, h1, h2, h2', h2'', RepOs.back k ds vs g (by have c' : (true && cleanL ds) = true := c; simpa using c') h3, h4⟩
  | .lst false _, v, f, c, h => ⟨Rep.back k _ v c h.1, h.2⟩
  | .obj false _ _ _, v, f, c, h => ⟨Rep.back k _ v c h.1, h.2⟩
  | .non, v, f, c, h => ⟨Rep.back k _ v c h.1, h.2⟩
  | .bl _, v, f, c, h => ⟨Rep.back k _ v c h.1, h.2⟩
  | .int _, v, f, c, h => ⟨Rep.back k _ v c h.1, h.2⟩
  | .str _, v, f, c, h => ⟨Rep.back k _ v c h.1, h.2⟩
  | .ty _, v, f, c, h => ⟨Rep.back k _ v c h.1, h.2⟩
  | .val _, v, f, c, h => ⟨Rep.back k _ v c h.1, h.2⟩
  | .exc _, v, f, c, h => ⟨Rep.back k _ v c h.1, h.2⟩
  | .tpo ds, v, f, c, h => by
    obtain ⟨a, vs, h1, h2, h3⟩ := h
    exact ⟨a, vs, h1, k a vs h2, RepOs.back k ds vs f c h3⟩
  | .dct true ks ds, v, f, c, h => by
    obtain ⟨a, vs, g, h1, h2, h2', h3, h4⟩ := h
    exact ⟨a, vs, g, h1, h2, h2', RepOs.back k ds vs g (by have c' : (true && cleanL ds) = true := c; simpa using c') h3, h4⟩
  | .dct false _ _, v, f, c, h => ⟨Rep.back k _ v c h.1, h.2⟩
  | .tup _, v, f, c, h => ⟨Rep.back k _ v c h.1, h.2⟩
  | .cst _, v, f, c, h => ⟨Rep.back k _ v c h.1, h.2⟩
theorem RepOs.back (k : ∀ a xs, SqT K F a xs → SqT K F' a xs) : ∀ (ds : List D) (vs : List V) (f : Ct), cleanL ds = true → RepOs K ca F H ds vs f → RepOs K ca F' H ds vs f
  | [], _, _, _, h => h
  | d :: ds, _, f, c, ⟨v, r, f1, f2, e, h1, h2, h3⟩ => by
    have c' : (clean d && cleanL ds) = true := c
    rw [Bool.and_eq_true] at c'
    exact ⟨v, r, f1, f2, e, RepO.back k d v f1 c'.1 h1, RepOs.back k ds r f2 c'.2 h2, h3⟩
end
def LsIn (H : Hp) (a : Addr) : Prop := (∃ xs, H a = some (.lst xs)) ∨ (∃ c dx fs, H a = some (.ins c dx fs)) ∨ ∃ kvs, H a = some (.dK kvs)
mutual
theorem RepO.kind : ∀ (d : D) (v : V) (f : Ct), RepO K ca F H d v f → ∀ a, 0 < f a → LsIn H a
  | .lst true ds, v, f, h, b, hb => by
    obtain ⟨a, vs, g, h1, h2, h3, h4⟩ := h
    by_cases e : b = a
    · subst e; exact .inl ⟨_, h2⟩
    · exact RepOs.kind ds vs g h3 b (by rw [h4, if_neg e] at hb; omega)
  | .obj true _ ns ds, v, f, h, b, hb => by
    obtain ⟨a, dx, fs, vs, g, h1, h2, h2', h2'', h3, h4⟩ := h
    by_cases e : b = a
    · subst e; exact .inr (.inl ⟨_, _, _, h2⟩)
    · exact RepOs.kind ds vs g h3 b (by rw [h4, if_neg e] at hb; omega)
  | .lst false _, v, f, h, b, hb => by rw [h.2] at hb; omega
  | .obj false _ _ _, v, f, h, b, hb => by rw [h.2] at hb; omega
  | .non, v, f, h, b, hb => by rw [h.2] at hb; omega
  | .bl _, v, f, h, b, hb => by rw [h.2] at hb; omega
  | .int _, v, f, h, b, hb => by rw [h.2] at hb; omega
  | .str _, v, f, h, b, hb => by rw [h.2] at hb; omega
  | .ty _, v, f, h, b, hb => by rw [h.2] at hb; omega
  | .val _, v, f, h, b, hb => by rw [h.2] at hb; omega
  | .exc _, v, f, h, b, hb => by rw [h.2] at hb; omega
  | .tpo ds, v, f, h, b, hb => by
    obtain ⟨a, vs, h1, h2, h3⟩ := h
    exact RepOs.kind ds vs f h3 b hb
  | .dct true _ ds, v, f, h, b, hb => by
    obtain ⟨a, vs, g, h1, h2, h2', h3, h4⟩ := h
    by_cases e : b = a
    · subst e; exact .inr (.inr ⟨_, h2⟩)
    · exact RepOs.kind ds vs g h3 b (by rw [h4, if_neg e] at hb; omega)
  | .dct false _ _, v, f, h, b, hb => by rw [h.2] at hb; omega
  | .tup _, v, f, h, b, hb => by rw [h.2] at hb; omega
  | .cst _, v, f, h, b, hb => by rw [h.2] at hb; omega
theorem RepOs.kind : ∀ (ds : List D) (vs : List V) (f : Ct), RepOs K ca F H ds vs f → ∀ a, 0 < f a → LsIn H a
  | [], _, _, h, b, hb => by rw [h.2] at hb; omega
  | d :: ds, _, f, ⟨v, r, f1, f2, e, h1, h2, h3⟩, b, hb => by
    rw [h3] at hb
    by_cases q : 0 < f1 b
    · exact RepO.kind d v f1 h1 b q
    · exact RepOs.kind ds r f2 h2 b (by omega)
end
def lend (F H : Hp) (f : Ct) : Hp := fun b => match F b with
  | some o => some o
  | none => if 0 < f b then H b else none
theorem lend_same (F H : Hp) (f : Ct) : Same F (lend F H f) := fun b x e => by
  unfold lend; rw [e]
theorem lend_at (sm : Same F H) {f : Ct} {b : Addr} (h : 0 < f b) : lend F H f b = H b := by
  unfold lend
  cases q : F b with
  | some o => exact (sm _ _ q).symm
  | none => exact if_pos h
end
section
variable {K : PySem.W.Frag} {B : Bx} {F H : Hp} {σ : L2.St} {τ : Env} {vs us : List V} {ds es : List D} {v : V} {d : D} {f : Ct}
theorem StT.lent {F' H' : Hp} {g : Ct} (s : StT K B F H σ τ vs ds) (r : RepOs K B.ca F H es us f) (h1 : Same (lend F H f) F') (h2 : Same F' H') (h3 : Same H H') (hv : RepO K B.ca F' H' d v g) (h4 : ∀ a, g a ≤ 1) (h5 : ∀ a, 0 < g a → F' a = none ∧ H a = none)
    (h6 : ∀ a, F' a ≠ none → lend F H f a ≠ none ∨ H a = none) (hc : clean d = true) : ∃ F2, StT K B F2 H' σ τ (v :: vs) (d :: ds) := by
  classical
  have sm := lend_same F H f
  refine ⟨fun b => if F b = none ∧ 0 < f b then none else F' b, s.called (g := g) (fun b x e => ?_) (fun b x e => ?_) h3 (hv.back (fun a xs q => ?_) _ _ _ hc) h4 (fun a q => ⟨?_, (h5 a q).2⟩) fun a q => ?_⟩
  · show (if F b = none ∧ 0 < f b then none else F' b) = some x
    rw [if_neg (fun z => by rw [z.1] at e; cases e)]
    exact h1 _ _ (sm _ _ e)
  · replace e : (if F b = none ∧ 0 < f b then none else F' b) = some x := e
    split at e
    · cases e
    · exact h2 _ _ e
  · rcases q with q | q
    · refine .inl ?_
      have key : ∀ o, F' a = some o → (∀ ys, o ≠ .lst ys) → (∀ c dx fs, o ≠ .ins c dx fs) → (∀ kvs, o ≠ .dK kvs) → (fun b => if F b = none ∧ 0 < f b then none else F' b) a = some o := fun o ho n1 n2 n3 => by
        show (if F a = none ∧ 0 < f a then none else F' a) = some o
        rw [if_neg (fun z => ?_)]
        · exact ho
        · have e := h1 a
          rw [lend_at s.same z.2] at e
          rcases RepOs.kind _ _ _ r a z.2 with ⟨ys, hk⟩ | ⟨c, dx, fs, hk⟩ | ⟨kvs, hk⟩
          · have := e _ hk
            rw [ho] at this
            cases this
            exact n1 _ rfl
          · have := e _ hk
            rw [ho] at this
            cases this
            exact n2 _ _ _ rfl
          · have := e _ hk
            rw [ho] at this
            cases this
            exact n3 _ rfl
      rcases q with q | ⟨o, q⟩
      · exact .inl (key _ q (fun _ z => by cases z) (fun _ _ _ z => by cases z) (fun _ z => by cases z))
      · exact .inr ⟨o, key _ q (fun _ z => by cases z) (fun _ _ _ z => by cases z) (fun _ z => by cases z)⟩
    · exact .inr q
  · show (if F a = none ∧ 0 < f a then none else F' a) = none
    split
    · rfl
    · exact (h5 a q).1
  · replace q : (if F a = none ∧ 0 < f a then none else F' a) ≠ none := q
    by_cases z : F a = none ∧ 0 < f a
    · rw [if_pos z] at q; exact absurd rfl q
    · rw [if_neg z] at q
      rcases h6 a q with k | k
      · refine .inl fun e => ?_
        unfold lend at k
        rw [e] at k
        replace k : (if 0 < f a then H a else none) ≠ none := k
        rw [if_neg (fun y => z ⟨e, y⟩)] at k
        exact k rfl
      · exact .inr k
end
section
variable {X : Cx} {B : Bx} {W : WX}
theorem RepOs.set {K : PySem.W.Frag} {ca : Str → Addr} {F H : Hp} {d : D} {v : V} {g2 : Ct} (hv : RepO K ca F H d v g2) : ∀ {ds : List D} {vs : List V} {f : Ct} (j : Nat), RepOs K ca F H ds vs f → ∃ g, RepOs K ca F H (ds.set j d) (vs.set j v) g ∧ ∀ b, g b ≤ f b + g2 b
  | [], vs, f, j, h => by
    cases (show vs = [] from h.1)
    exact ⟨f, h, fun b => by omega⟩
  | x :: ds, _, f, 0, ⟨w, r, f1, f2, e, h1, h2, h3⟩ => by
    subst e
    exact ⟨fun b => g2 b + f2 b, ⟨v, r, g2, f2, rfl, hv, h2, fun _ => rfl⟩, fun b => by show g2 b + f2 b ≤ f b + g2 b; rw [h3]; omega⟩
  | x :: ds, _, f, j + 1, ⟨w, r, f1, f2, e, h1, h2, h3⟩ => by
    subst e
    obtain ⟨g, k1, k2⟩ := RepOs.set hv j h2
    exact ⟨fun b => f1 b + g b, ⟨w, r.set j v, f1, g, rfl, h1, k1, fun _ => rfl⟩, fun b => by show f1 b + g b ≤ f b + g2 b; have := k2 b; rw [h3]; omega⟩
theorem StT.len {K : PySem.W.Frag} {F H : Hp} {σ : L2.St} {τ : Env} {vs : List V} {ds : List D} (s : StT K B F H σ τ vs ds) : σ.length = τ.length := by
  obtain ⟨_, _, a, _⟩ := s
  exact a.length
end
end Bn
namespace Bn
open PySem PySem.Spec PyProof.Rows L2
inductive CR2 where
  | ok (d : D) (outs : List D)
  | bad
def spIO (K : PySem.W.Frag) (ca : Str → Addr) (k : Nat) (g : List D → CR2) : Sp := fun vs H Q _ => ∃ F f ios rest us ws, vs = us ++ ws ∧ ios.length = k ∧ RepOs K ca F H ios us f ∧ RepL K ca F rest ws ∧ Same F H ∧ (∀ a, f a ≤ 1) ∧ (∀ a, 0 < f a → F a = none) ∧
  match g (ios ++ rest) with
  | .ok d outs => ∀ v F' H' g', Same F F' → Same F' H' → (∀ a o, f a = 0 → H a = some o → H' a = some o) → RepOs K ca F' H' (d :: outs) (v :: us) g' → (∀ a, g' a ≤ 1) → (∀ a, 0 < g' a → F' a = none ∧ (H a = none ∨ 0 < f a)) → (∀ a, F' a ≠ none → F a ≠ none ∨ H a = none ∨ 0 < f a) → Q v H'
  | .bad => False
structure FoI (P : Program) (w : World) (K : PySem.W.Frag) (mg : Str → Option Value) (base : Heap) (ca : Str → Addr) (k : Nat) (x : Str) (m : Nat) (g : List D → CR2) : Prop where
  ex : ∃ f fd ps, mg x = some (.ref f) ∧ PySem.W.keepIn K (.ref f) = true ∧ Binds K fd ps [] ∧ FnOk P w K mg base (L2.CX P w) k f fd ps (spIO K ca m g)
section
variable {K : PySem.W.Frag} {ca : Str → Addr} {F H : Hp}
end
section
variable {P : Program} {w : World} {K : PySem.W.Frag} {mg : Str → Option Value} {base : Heap} {ca : Str → Addr}
end
def takeD : List Nat → Env → Option (List D × Env)
  | [], τ => some ([], τ)
  | i :: is, τ => match τ.getD i none with
    | none => none
    | some d => (takeD is (τ.set i none)).map fun p => (d :: p.1, p.2)
section
variable {X : Cx} {B : Bx} {W : WX}
theorem StT.takes {F H : Hp} {σ : L2.St} : ∀ {is : List Nat} {τ τ' : Env} {vs vals : List V} {ds ios : List D}, StT X.K B F H σ τ vs ds → takeD is τ = some (ios, τ') → vals.length = is.length → (∀ (j i : Nat), is[j]? = some i → ∃ v, vals[j]? = some v ∧ σ[i]? = some (some v)) → ios.length = is.length ∧ StT X.K B F H σ τ' (vals ++ vs) (ios ++ ds)
  | [], τ, τ', vs, vals, ds, ios, s, e, hl, _ => by
    cases (show some ([], τ) = some (ios, τ') from e)
    cases vals with
    | nil => exact ⟨rfl, s⟩
    | cons _ _ => cases hl
  | i :: is, τ, τ', vs, vals, ds, ios, s, e, hl, hv => by
    cases e1 : τ.getD i none with
    | none =>
      unfold takeD at e
      rw [e1] at e; cases e
    | some d =>
      unfold takeD at e
      rw [e1] at e
      replace e : (takeD is (τ.set i none)).map (fun p => (d :: p.1, p.2)) = some (ios, τ') := e
      cases e2 : takeD is (τ.set i none) with
      | none => rw [e2] at e; cases e
      | some p =>
        rw [e2] at e
        cases e
        cases vals with
        | nil => cases hl
        | cons v vals =>
          obtain ⟨v', k1, k2⟩ := hv 0 i rfl
          obtain ⟨v2, k3, s1⟩ := s.take (getD_some e1)
          have : v' = v := by simpa using k1.symm
          subst this
          rw [k2] at k3
          cases k3
          obtain ⟨hl2, s2⟩ := StT.takes (vals := vals) (ios := p.1) (τ' := p.2) s1 e2 (by simpa using hl) fun j i' hj => by
            obtain ⟨w, q1, q2⟩ := hv (j + 1) i' (by simpa using hj)
            exact ⟨w, by simpa using q1, q2⟩
          have hl3 : vals.length = p.1.length := by
            have : vals.length = is.length := by simpa using hl
            omega
          exact ⟨by simp [hl2], s2.swap hl3⟩
def insI (x : Int) : List Int → List Int
  | [] => [x]
  | y :: r => if x ≤ y then x :: y :: r else y :: insI x r
instance decCMul {i j : Int} : Decidable (CMul i j) := by unfold CMul; infer_instance
end
end Bn
namespace Bn
open PySem PySem.Spec PyProof.Rows L2
section
variable {prog : Program} {w : World} {A : Around} {E : Value → Shared → Prop} {s : Shared}
end
section
variable {X : Cx}
end
section
variable {X : Cx} {B : Bx} {W : WX}
theorem RepL.app {K : PySem.W.Frag} {ca : Str → Addr} {F : Hp} : ∀ {ds es : List D} {vs us : List V}, RepL K ca F ds vs → RepL K ca F es us → RepL K ca F (ds ++ es) (vs ++ us)
  | [], es, vs, us, h, k => by cases (show vs = [] from h); exact k
  | d :: ds, es, _, us, ⟨v, r, h1, h2, h3⟩, k => by subst h1; exact ⟨v, r ++ us, rfl, h2, h3.app k⟩
theorem RepL.rev {K : PySem.W.Frag} {ca : Str → Addr} {F : Hp} : ∀ {ds : List D} {vs : List V}, RepL K ca F ds vs → RepL K ca F ds.reverse vs.reverse
  | [], vs, h => by cases (show vs = [] from h); exact rfl
  | d :: ds, _, ⟨v, r, h1, h2, h3⟩ => by
    subst h1
    rw [List.reverse_cons, List.reverse_cons]
    exact h3.rev.app ⟨v, [], rfl, h2, rfl⟩
theorem RepOs.clr {K : PySem.W.Frag} {ca : Str → Addr} {F H : Hp} : ∀ {es : List D} {us : List V} {g : Ct} {k : Nat} {ws : List D}, RepOs K ca F H es us g → es[k]? = some (.lst true ws) → (∀ a, g a ≤ 1) →
    ∃ b vs, us[k]? = some (.ref b) ∧ H b = some (.lst vs) ∧ 0 < g b ∧ ∃ g', RepOs K ca F (upd H b (.lst [])) (es.set k (.lst true [])) us g' ∧ ∀ x, g' x ≤ g x
  | [], _, _, _, _, _, e, _ => by simp at e
  | d :: es, _, g, 0, ws, ⟨v, r, f1, f2, e, h1, h2, h3⟩, hd, nd => by
    subst e
    have : d = .lst true ws := by simpa using hd
    subst this
    obtain ⟨b, vs, g1, rfl, hx, hg, q⟩ := h1
    have f1b : f1 b = 1 + g1 b := by rw [q, if_pos rfl]
    have one := nd b
    rw [h3, f1b] at one
    refine ⟨b, vs, rfl, hx, by rw [h3, f1b]; omega, fun x => (if x = b then 1 else 0) + f2 x, ?_, fun x => ?_⟩
    · refine ⟨.ref b, r, fun x => if x = b then 1 else 0, f2, rfl, ⟨b, [], fun _ => 0, rfl, upd_same, ⟨rfl, fun _ => rfl⟩, fun x => rfl⟩, RepOs.mono (Same.refl _) _ _ _ (fun x hx => upd_ne fun e => ?_) h2, fun _ => rfl⟩
      subst e; omega
    · show (if x = b then 1 else 0) + f2 x ≤ g x
      rw [h3, q]; omega
  | d :: es, _, g, k + 1, ws, ⟨v, r, f1, f2, e, h1, h2, h3⟩, hd, nd => by
    subst e
    obtain ⟨b, vs, k1, k2, k3, g', k4, k5⟩ := RepOs.clr (k := k) (ws := ws) h2 (by simpa using hd) (fun a => by have := nd a; rw [h3] at this; omega)
    have one := nd b
    rw [h3] at one
    refine ⟨b, vs, by simpa using k1, k2, by rw [h3]; omega, fun x => f1 x + g' x, ⟨v, r, f1, g', rfl, RepO.mono (Same.refl _) _ _ _ (fun x hx => upd_ne fun e => ?_) h1, k4, fun _ => rfl⟩, fun x => by show f1 x + g' x ≤ g x; rw [h3]; have := k5 x; omega⟩
    subst e; omega
theorem StT.clr {K : PySem.W.Frag} {F H : Hp} {σ : L2.St} {τ : Env} {vs : List V} {es ds ws : List D} {a : Addr} {k : Nat} (s : StT K B F H σ τ (.ref a :: vs) (.lst true es :: ds)) (hk : es[k]? = some (.lst true ws)) :
    ∃ us b xs, H a = some (.lst us) ∧ us[k]? = some (.ref b) ∧ H b = some (.lst xs) ∧ StT K B F (upd H b (.lst [])) σ τ (.ref a :: vs) (.lst true (es.set k (.lst true [])) :: ds) := by
  obtain ⟨f1, f2, A, ⟨_, _, g1, g2, e, h, b2, q⟩, w, io⟩ := s
  cases e
  obtain ⟨a', us, g3, e', hx, h3, q3⟩ := h
  cases e'
  have tot : ∀ x, f1 x + f2 x = f1 x + ((if x = a then 1 else 0) + g3 x + g2 x) := fun x => by rw [q, q3]
  have nd : ∀ x, f1 x + ((if x = a then 1 else 0) + g3 x + g2 x) ≤ 1 := fun x => by rw [← tot]; exact w.nd x
  obtain ⟨b, xs, k1, k2, k3, g', k4, k5⟩ := RepOs.clr h3 hk fun x => by have := nd x; omega
  have nb := nd b
  have hba : a ≠ b := fun e => by subst e; rw [if_pos rfl] at nb; omega
  rw [if_neg (fun e => hba e.symm)] at nb
  have off : ∀ {φ : Ct}, φ b = 0 → ∀ x, 0 < φ x → upd H b (.lst []) x = H x := fun {φ} hz x hx => upd_ne fun e => by rw [e, hz] at hx; omega
  have fb : F b = none := w.dF b (by show 0 < f1 b + f2 b; rw [tot]; omega)
  have rb : B.R b = none := w.dR b (by show 0 < f1 b + f2 b; rw [tot]; omega)
  refine ⟨us, b, xs, hx, k1, k2, f1, fun x => ((if x = a then 1 else 0) + g' x) + g2 x, A.mono (Same.refl _) (off (by omega)), ⟨.ref a, vs, fun x => (if x = a then 1 else 0) + g' x, g2, rfl, ⟨a, us, g', rfl, (upd_ne hba).trans hx, k4, fun _ => rfl⟩, RepOs.mono (Same.refl _) _ _ _ (off (by omega)) b2, fun _ => rfl⟩, ?_, io⟩
  have w2 : Wd B F H (fun x => f1 x + (((if x = a then 1 else 0) + g' x) + g2 x)) := w.less fun x => by
    show f1 x + (((if x = a then 1 else 0) + g' x) + g2 x) ≤ f1 x + f2 x
    have := tot x; have := k5 x; omega
  exact ⟨w2.nd, w2.dF, w2.dR, fun x o e => by rw [upd_ne (ne_of_none e fb)]; exact w.sF x o e, fun x o e => by rw [upd_ne (ne_of_none e rb)]; exact w.sR x o e, w.s0, w.fr⟩
theorem RepOs.insI {K : PySem.W.Frag} {ca : Str → Addr} {F H : Hp} {d0 : D} {v0 : V} {f0 : Ct} (h0 : RepO K ca F H d0 v0 f0) : ∀ {es : List D} {us : List V} {g : Ct} (k : Nat), RepOs K ca F H es us g → ∃ g', RepOs K ca F H (es.take k ++ [d0] ++ es.drop k) (us.take k ++ [v0] ++ us.drop k) g' ∧ ∀ x, g' x ≤ g x + f0 x
  | es, us, g, 0, h => by
    refine ⟨fun x => f0 x + g x, ?_, fun x => by show f0 x + g x ≤ g x + f0 x; omega⟩
    simp only [List.take_zero, List.drop_zero, List.nil_append, List.singleton_append]
    exact ⟨v0, us, f0, g, rfl, h0, h, fun _ => rfl⟩
  | [], us, g, k + 1, h => by
    have e : us = [] := h.1
    subst e
    refine ⟨f0, ?_, fun x => by omega⟩
    exact ⟨v0, [], f0, fun _ => 0, rfl, h0, ⟨rfl, fun _ => rfl⟩, fun _ => rfl⟩
  | d :: es, _, g, k + 1, ⟨v, r, f1, f2, e, h1, h2, h3⟩ => by
    subst e
    obtain ⟨g', k1, k2⟩ := RepOs.insI h0 k h2
    exact ⟨fun x => f1 x + g' x, ⟨v, _, f1, g', rfl, h1, k1, fun _ => rfl⟩, fun x => by show f1 x + g' x ≤ g x + f0 x; rw [h3]; have := k2 x; omega⟩
end
end Bn
namespace Bn
open PySem PySem.Spec PyProof.Rows L2
def rangeN (lo : Int) (n : Nat) : List D := (List.range n).map fun k => D.int (lo + (k : Nat) * (-1))
section
variable {X : Cx} {B : Bx} {W : WX}
end
end Bn
namespace Bn
open PySem PySem.Spec PyProof.Rows L2
section
variable {P : Program} {w : World} {K : PySem.W.Frag} {mg : Str → Option Value} {base : Heap} {ca : Str → Addr}
theorem Fo.at {x : Str} {g : List D → CR} {k j : Nat} (F : Fo P w K mg base ca k x g) (h : k = j) : Fo P w K mg base ca j x g := h ▸ F
end
def gStrI : List D → Option D
  | [.int i] => if i.natAbs.log2 < 1920 then some (.str (toString i)) else none
  | _ => none
theorem sStrI {K : PySem.W.Frag} : CallS K (fun xs H Q => ∃ i, xs = [.int i] ∧ i.natAbs.log2 < 1920 ∧ Q (.str (toString i)) H) gStrI := by
  intro ca F H xs as d f1 Q sm hx e q
  match as, e, hx with
  | [.int i], e, hx =>
    obtain ⟨v, r, g1, g2, rfl, h1, h2, _⟩ := hx
    cases (show r = [] from h2.1)
    by_cases c : i.natAbs.log2 < 1920
    · have e' : (if i.natAbs.log2 < 1920 then some (D.str (toString i)) else none) = some d := e
      rw [if_pos c] at e'
      cases e'
      cases (show v = .int i from h1.1)
      exact ⟨i, rfl, c, q (.str (toString i)) _ (Rep.o (d := .str (toString i)) rfl)⟩
    · have e' : (if i.natAbs.log2 < 1920 then some (D.str (toString i)) else none) = some d := e
      rw [if_neg c] at e'
      cases e'
end Bn
namespace Bn
open PySem PySem.Spec PyProof.Rows L2
def CDivX (i j : Int) : Prop := j ≠ 0 ∧ j.natAbs.log2 < 9000
instance {i j : Int} : Decidable (CDivX i j) := by unfold CDivX; infer_instance
end Bn
namespace Bn
open PySem PySem.Spec PyProof.Rows L2
end Bn
namespace Bn
open PySem PySem.Spec PyProof.Rows L2
section
variable {X : Cx} {B : Bx} {W : WX}
end
end Bn
namespace Bn
open PySem PySem.Spec PyProof.Rows L2
def Bx.io1 (B : Bx) (i : Nat) (v : V) : Bx := ⟨B.ca, B.F0, B.R, (i, v) :: B.io⟩
section
variable {X : Cx} {B : Bx} {W : WX}
theorem StT.io1 {K : PySem.W.Frag} {F H : Hp} {σ : L2.St} {τ : Env} {vs : List V} {ds : List D} {i : Nat} {v : V} (s : StT K B F H σ τ vs ds) (h : σ[i]? = some (some v)) : StT K (B.io1 i v) F H σ τ vs ds := by
  obtain ⟨f1, f2, a, b, w, io⟩ := s
  exact ⟨f1, f2, a, b, ⟨w.nd, w.dF, w.dR, w.sF, w.sR, w.s0, w.fr⟩, fun p hp => by
    rcases List.mem_cons.mp hp with rfl | hp
    · exact h
    · exact io p hp⟩
end
end Bn
namespace Bn
open PySem PySem.Spec PyProof.Rows L2
section
variable {X : Cx} {B : Bx} {W : WX}
end
end Bn
namespace Bn
open PySem PySem.Spec PyProof.Rows L2
section
variable {X : Cx} {B : Bx} {W : WX}
end
end Bn
namespace Bn
open PySem PySem.Spec PyProof.Rows L2
section
variable {K : PySem.W.Frag} {ca : Str → Addr} {F H : Hp} {f : Str}
end
section
variable {K : PySem.W.Frag} {B : Bx} {F H : Hp} {σ : L2.St} {τ : Env} {vs us : List V} {ds es : List D} {v : V} {d : D}
end
section
variable {X : Cx} {B : Bx} {W : WX}
theorem slen {K : PySem.W.Frag} {F H : Hp} {σ : L2.St} {τ : Env} {vs : List V} {ds : List D} (s : StT K B F H σ τ vs ds) : σ.length = τ.length := by
  obtain ⟨_, _, A, _⟩ := s; exact A.length
end
section
variable {P : Program} {w : World} {K : PySem.W.Frag} {mg : Str → Option Value} {base : Heap} {ca : Str → Addr}
structure MkI (P : Program) (w : World) (K : PySem.W.Frag) (mg : Str → Option Value) (base : Heap) (ca : Str → Addr) (j : Nat) (x : Str) (g : List D → CR2) : Prop where
  ex : ∃ k f fd ps, k + 1 ≤ j ∧ Mk K (ca x) f ∧ mg x = some (.ref (ca x)) ∧ Binds K fd ps [] ∧ FnOk P w K mg base (L2.CX P w) k f fd ps (spIO K ca 1 g)
structure MFoI (P : Program) (w : World) (K : PySem.W.Frag) (mg : Str → Option Value) (base : Heap) (ca : Str → Addr) (j : Nat) (c m : Str) (g : List D → CR2) : Prop where
  ex : ∃ k f fd ps, k ≤ j ∧ Meth K (ca c) m f ∧ Binds K fd ps [] ∧ FnOk P w K mg base (L2.CX P w) k f fd ps (spIO K ca 1 g)
  cl : Cls K (ca c)
end
section
variable {X : Cx} {B : Bx} {W : WX}
end
section
variable {X : Cx} {B : Bx} {W : WX}
end
section
variable {X : Cx} {B : Bx} {W : WX}
end
section
variable {K : PySem.W.Frag} {ca : Str → Addr} {F H : Hp}
end
section
variable {K : PySem.W.Frag} {B : Bx} {F H : Hp} {σ : L2.St} {τ : Env} {vs us : List V} {ds es : List D} {v : V} {d : D}
end
section
variable {X : Cx} {B : Bx} {W : WX}
end
end Bn
namespace Bn
open PySem PySem.Spec PyProof.Rows L2
section
variable {K : PySem.W.Frag} {B : Bx} {F H : Hp} {σ : L2.St} {τ : Env} {vs : List V} {ds : List D} {v : V} {d : D}
end
section
variable {X : Cx} {B : Bx} {W : WX}
end
section
variable {X : Cx} {B : Bx} {W : WX}
end
end Bn
namespace Bn
open PySem PySem.Spec PyProof.Rows L2
section
variable {X : Cx}
end
section
variable {X : Cx} {B : Bx} {W : WX}
end
end Bn
namespace Bn
open PySem PySem.Spec PyProof.Rows L2
section
variable {K : PySem.W.Frag} {B : Bx} {F H : Hp} {σ : L2.St} {τ : Env} {vs us : List V} {ds es : List D} {v y : V} {d : D}
end
section
variable {X : Cx} {B : Bx} {W : WX}
end
section
variable {K : PySem.W.Frag} {B : Bx} {F H : Hp} {σ : L2.St} {τ : Env} {vs : List V} {ds : List D} {y : V} {d : D}
end
section
variable {X : Cx} {B : Bx} {W : WX}
end
end Bn
namespace Bn
open PySem PySem.Spec PyProof.Rows L2
section
variable {X : Cx} {B : Bx} {W : WX}
end
end Bn
namespace Bn
open PySem L2
theorem vEq (i j : Int) : gEq (.int i) (.int j) = some (.bl (i == j)) := rfl
theorem vNe (i j : Int) : gNe (.int i) (.int j) = some (.bl (!(i == j))) := rfl
theorem vNe2 (a b c d : Int) : gNe (.tup [.int a, .int b]) (.tup [.int c, .int d]) = some (.bl (!((a == c) && ((b == d) && true)))) := rfl
theorem atI_of {α : Type} {xs : List α} {k : Nat} {i : Int} (e : i = (k : Int)) : atI xs i = xs[k]? := by
  subst e
  unfold atI ixN
  rw [if_pos (by omega)]
  by_cases h : (k : Int) < xs.length
  · rw [if_pos h]; simp
  · rw [if_neg h]
    rw [List.getElem?_eq_none (by omega)]; rfl
theorem vLenL (m : Bool) (xs : List D) : gLen [.lst m xs] = some (.int xs.length) := rfl
theorem vLenC (xs : List D) : gLen [.cst xs] = some (.int xs.length) := rfl
theorem vLenT (xs : List D) : gLen [.tup xs] = some (.int xs.length) := rfl
section
variable {α β : Type} {τ τ' : Env} {d : D} {ds : List D} {c : Str} {x : Bool} {i : Nat}
def c0 (r : CR) (τ : Env) : R D := match r with
  | .ok d => .ok d τ
  | _ => .bad
theorem okP_str {i : Str} (h : PySem.PyData.strOk i = true) : okP (.str i) = true := by
  show (true && (PySem.PyData.canLay0 (.str i) && decide (PySem.PyData.depth (.str i) ≤ 64))) = true
  rw [show PySem.PyData.canLay0 (.str i) = true from h]
  rfl
theorem vEqS {i j : Str} (h1 : PySem.PyData.strOk i = true) (h2 : PySem.PyData.strOk j = true) : gEq (.str i) (.str j) = some (.bl (i == j)) := if_pos ⟨okP_str h1, okP_str h2⟩
theorem vNeS {i j : Str} (h1 : PySem.PyData.strOk i = true) (h2 : PySem.PyData.strOk j = true) : gNe (.str i) (.str j) = some (.bl (!(i == j))) := if_pos ⟨okP_str h1, okP_str h2⟩
end
end Bn
namespace Bn
open PySem L2
structure Ok (n : Nat) (d : D) : Prop where
  h : hasP d = true
  l : (toP d).canLay0 = true
  d : (toP d).depth ≤ n
theorem Ok.p {n : Nat} {d : D} (h : Ok n d) (hn : n ≤ 64 := by decide) : okP d = true := by
  unfold okP SeqAt.shaped
  rw [h.h, h.l, decide_eq_true (Nat.le_trans h.d hn)]; rfl
section
variable {g : D → Env → Option Env} {b : MS} {own : List Nat} {t : MT} {m : ME}
def All2 (P : D → D → Prop) : List D → List D → Prop
  | [], [] => True
  | x :: xs, y :: ys => P x y ∧ All2 P xs ys
  | _, _ => False
theorem All2.length {P : D → D → Prop} : ∀ {xs ys : List D}, All2 P xs ys → xs.length = ys.length
  | [], [], _ => rfl
  | _ :: _, [], h => h.elim
  | [], _ :: _, h => h.elim
  | _ :: _, _ :: _, h => by rw [List.length_cons, List.length_cons, h.2.length]
end
section
variable {ma : MA} {g : D → Env → Option Env} {b : MS} {own : List Nat} {t : MT} {m : ME} {τ τ1 τ2 : Env}
end
end Bn
namespace Bn
open PySem PySem.Spec PyProof.Rows L2
open HandSHeadRun (frNat frNat_eq)
end Bn
namespace Bn
open PySem PySem.Spec PyProof.Rows L2
section
variable {X : Cx} {B : Bx} {W : WX}
def splitR (a b : Str) (τ : Env) : R D := if b.length ≠ 0 ∧ a.length ≤ 1000000 then .ok (.lst true ((Txt.split a b).map D.str)) τ else .bad
def eSplit (a b : ME) : ME := fun τ => (a τ).bind fun x τ1 => match x with
  | .str z => (b τ1).bind fun y τ2 => (match y with
    | .str w => splitR z w τ2
    | _ => .bad)
  | _ => .bad
theorem newStrs {K : PySem.W.Frag} {F H : Hp} {σ : L2.St} {τ : Env} {vs : List V} {ds : List D} (s : StT K B F H σ τ vs ds) (ys : List Str) {p : Addr} (hp : H p = none) : StT K B F (upd H p (.lst (ys.map V.str))) σ τ (.ref p :: vs) (.lst true (ys.map D.str) :: ds) := by
  have key : ∀ ys : List Str, RepL K B.ca F (ys.map D.str) (ys.map V.str) := fun ys => by
    induction ys with
    | nil => exact rfl
    | cons y ys ih => exact ⟨_, _, rfl, rfl, ih⟩
  have s2 := s.pushL (key ys)
  exact StT.newLst (us := ys.map V.str) (es := ys.map D.str) s2 (by rw [List.length_map, List.length_map]) hp
theorem e_split {o e : Expr} {apos pos : Pos} {a b : ME} (ho : PE X o (rdE X.K B W a)) (he : PE X e (rdE X.K B W b)) (hs : starEach [e] X.env = (false, eval e X.env) :: starEach [] X.env := by rfl) (hbase : attributeBase o "split" X.env (eval o X.env) = eval o X.env := by rfl)
    (hfew : ((backTo pos (starEach [e] X.env)).all (fun x => !x.1) && (backToKw pos (keywordEach [] X.env)).all (fun x => x.1.isSome)
      && decide (([e] : List Expr).length + ([] : List Keyword).length + (if ([] : List Keyword).isEmpty then 0 else 1) < 30)) = true := by rfl)
    (hline : (apos.endLine == pos.line) = true := by rfl) (hplain : (backTo pos (starEach [] X.env)).any (·.1) = false := by rfl) :
    PE X (.Call (.Attribute o "split" apos) [e] [] pos) (rdE X.K B W (eSplit a b)) := PE.imp (pe_bm PySem.F.plainAttrs_str PySem.F.slot_str_split PySem.F.type_str_split mt_split ho (pa_cons he pa_nil hs) hbase hfew hline hs hplain) fun σ H Q ⟨F, τ, vs, ds, s, k⟩ => by
  refine ⟨F, τ, vs, ds, s, post_imp (post_bind k) (fun d τ1 q v F1 H1 s1 => ?_) fun _ _ q => q⟩
  cases d with
  | str z =>
    cases (show v = .str z from s1.topF rfl)
    refine ⟨rfl, F1, τ1, _, _, s1, post_imp (post_bind q) (fun d τ2 q w F2 H2 s2 => ?_) fun c τ2 q F2 H2 s2 => q F2 H2 s2.pop⟩
    cases d with
    | str y =>
      cases (show w = .str y from s2.topF rfl)
      by_cases hz : y.length ≠ 0 ∧ z.length ≤ 1000000
      · replace q : post _ _ (splitR z y τ2) := q
        unfold splitR at q
        rw [if_pos hz] at q
        refine ⟨z, y, rfl, rfl, by simpa using hz.1, ?_, fun p hp => ?_⟩
        · have := hz.2; rw [sizeLine_eq]; omega
        · exact q _ _ _ (newStrs s2.pop.pop _ hp)
      · replace q : post _ _ (splitR z y τ2) := q
        unfold splitR at q
        rw [if_neg hz] at q; exact False.elim q
    | _ => exact False.elim q
  | _ => exact False.elim q
end
def gIntS : List D → Option D
  | [.str a] => if a.length ≤ 640 then (intText? a).map D.int else none
  | _ => none
theorem sIntS {K : PySem.W.Frag} : CallS K (fun xs H Q => ∃ a n, xs = [.str a] ∧ PySem.intText? a = some n ∧ a.length ≤ 640 ∧ Q (.int n) H) gIntS := by
  intro ca F H xs as d f1 Q sm hx e q
  match as, e, hx with
  | [.str a], e, hx =>
    obtain ⟨v, r, g1, g2, rfl, h1, h2, _⟩ := hx
    cases (show r = [] from h2.1)
    cases (show v = .str a from h1.1)
    have e : (if a.length ≤ 640 then (intText? a).map D.int else none) = some d := e
    by_cases c : a.length ≤ 640
    · rw [if_pos c] at e
      obtain ⟨n, e1, e2⟩ := Option.map_eq_some_iff.mp e
      subst e2
      exact ⟨a, n, rfl, e1, c, q (.int n) _ (Rep.o (d := .int n) rfl)⟩
    · rw [if_neg c] at e; cases e
end Bn
namespace Bn
open PySem PySem.Spec PyProof.Rows L2
inductive N (α : Type) where
  | ok (a : α) | ex (c : Str) | bad
inductive NS (σ κ ρ : Type) where
  | nx (s : σ) | bk (l : κ) | ct (l : κ) | rt (r : ρ) | ex (c : Str) | bad
def N.bind {α β : Type} : N α → (α → N β) → N β
  | .ok a, k => k a
  | .ex c, _ => .ex c
  | .bad, _ => .bad
def N.s {α σ κ ρ : Type} : N α → (α → NS σ κ ρ) → NS σ κ ρ
  | .ok a, k => k a
  | .ex c, _ => .ex c
  | .bad, _ => .bad
def NS.s {σ σ' κ ρ : Type} : NS σ κ ρ → (σ → NS σ' κ ρ) → NS σ' κ ρ
  | .nx a, k => k a
  | .bk l, _ => .bk l
  | .ct l, _ => .ct l
  | .rt r, _ => .rt r
  | .ex c, _ => .ex c
  | .bad, _ => .bad
def NS.f {σ κ ρ : Type} : NS σ κ ρ → N ρ
  | .rt r => .ok r
  | .ex c => .ex c
  | _ => .bad
def NS.fz {σ κ ρ : Type} (z : ρ) : NS σ κ ρ → N ρ
  | .rt r => .ok r
  | .nx _ => .ok z
  | .ex c => .ex c
  | _ => .bad
def N.o {α : Type} : Option α → N α
  | some a => .ok a
  | none => .bad
theorem N.bind_ok {α β : Type} (a : α) (k : α → N β) : (N.ok a).bind k = k a := of_eq_true (eq_self (k a))
theorem N.bind_assoc {α β γ : Type} (v : N α) (f : α → N β) (g : β → N γ) : (v.bind f).bind g = v.bind fun a => (f a).bind g := by cases v <;> rfl
theorem N.s_ok {α σ κ ρ : Type} (a : α) (k : α → NS σ κ ρ) : (N.ok a).s k = k a := of_eq_true (eq_self (k a))
theorem N.s_ex {α σ κ ρ : Type} (c : Str) (k : α → NS σ κ ρ) : (N.ex c).s k = .ex c := rfl
theorem NS.s_ex {σ σ' κ ρ : Type} (c : Str) (k : σ → NS σ' κ ρ) : (NS.ex c).s k = .ex c := rfl
theorem NS.f_ex {σ κ ρ : Type} (c : Str) : (NS.ex c : NS σ κ ρ).f = .ex c := rfl
abbrev EP (α : Type) := α → D → Prop
abbrev EL (α : Type) := α → List D → Prop
inductive Al {α : Type} (e : EP α) : List α → List D → Prop
  | nil : Al e [] []
  | cons {x : α} {d : D} {xs : List α} {ds : List D} : e x d → Al e xs ds → Al e (x :: xs) (d :: ds)
def eI : EP Int := fun i d => d = .int i
def eB : EP Bool := fun b d => d = .bl b
def eS : EP Str := fun s d => d = .str s
def eCn : EP (List Int) := fun ns d => d = .cst (ns.map D.int)
def eLi (m : Bool) {α : Type} (e : EP α) : EP (List α) := fun xs d => ∃ ds, d = .lst m ds ∧ Al e xs ds
def eTu {α : Type} (es : EL α) : EP α := fun x d => ∃ ds, d = .tup ds ∧ es x ds
def eCons {α β : Type} (e : EP α) (es : EL β) : EL (α × β) := fun p ds => ∃ d r, ds = d :: r ∧ e p.1 d ∧ es p.2 r
def eOne {α : Type} (e : EP α) : EL α := fun x ds => ∃ d, ds = [d] ∧ e x d
def Zf {α : Type} (e : EP α) : Prop := ∀ x d, e x d → isFz d = true
def Fz {α : Type} (e e' : EP α) : Prop := ∀ x d, e x d → e' x (freeze d)
def FzL {α : Type} (e e' : EL α) : Prop := ∀ x ds, e x ds → e' x (freezeL ds)
theorem freeze_of {d : D} (h : isFz d = true) : freeze d = d := by
  cases d with
  | lst m xs => cases m with
    | true => cases h
    | false => rfl
  | obj m c ns xs => cases m with
    | true => cases h
    | false => rfl
  | dct m ks xs => cases m with
    | true => cases h
    | false => rfl
  | tpo xs => cases h
  | _ => rfl
theorem zf_I : Zf eI := fun _ _ h => by rw [show _ = _ from h]; rfl
theorem zf_B : Zf eB := fun _ _ h => by rw [show _ = _ from h]; rfl
theorem zf_S : Zf eS := fun _ _ h => by rw [show _ = _ from h]; rfl
theorem zf_C : Zf eCn := fun _ _ h => by rw [show _ = _ from h]; rfl
theorem zf_T {α : Type} {e : EL α} : Zf (eTu e) := fun _ _ ⟨_, h, _⟩ => by rw [h]; rfl
theorem fz_z {α : Type} {e : EP α} (h : Zf e) : Fz e e := fun x d q => by rw [freeze_of (h x d q)]; exact q
theorem Al.fz {α : Type} {e e' : EP α} (h : Fz e e') : ∀ {xs : List α} {ds : List D}, Al e xs ds → Al e' xs (freezeL ds)
  | _, _, .nil => .nil
  | _, _, .cons a b => .cons (h _ _ a) (b.fz h)
theorem fzl_cons {α β : Type} {e e' : EP α} {es es' : EL β} (h : Fz e e') (k : FzL es es') : FzL (eCons e es) (eCons e' es') := fun p ds ⟨d, r, q, a, b⟩ => by
  rw [q]; exact ⟨_, _, rfl, h _ _ a, k _ _ b⟩
theorem fzl_one {α : Type} {e e' : EP α} (h : Fz e e') : FzL (eOne e) (eOne e') := fun p ds ⟨d, q, a⟩ => by
  rw [q]; exact ⟨_, rfl, h _ _ a⟩
theorem Al.length {α : Type} {e : EP α} : ∀ {xs : List α} {ds : List D}, Al e xs ds → ds.length = xs.length
  | _, _, .nil => rfl
  | _, _, .cons _ b => congrArg (· + 1) b.length
theorem Al.append {α : Type} {e : EP α} : ∀ {xs ys : List α} {ds es : List D}, Al e xs ds → Al e ys es → Al e (xs ++ ys) (ds ++ es)
  | _, _, _, _, .nil, k => k
  | _, _, _, _, .cons a b, k => .cons a (b.append k)
theorem Al.imp {α : Type} {e e' : EP α} (h : ∀ x d, e x d → e' x d) : ∀ {xs : List α} {ds : List D}, Al e xs ds → Al e' xs ds
  | _, _, .nil => .nil
  | _, _, .cons a b => .cons (h _ _ a) (b.imp h)
theorem Al.drop {α : Type} {e : EP α} : ∀ (n : Nat) {xs : List α} {ds : List D}, Al e xs ds → Al e (xs.drop n) (ds.drop n)
  | 0, _, _, h => h
  | _ + 1, _, _, .nil => .nil
  | n + 1, _, _, .cons _ b => b.drop n
theorem Al.take {α : Type} {e : EP α} : ∀ (n : Nat) {xs : List α} {ds : List D}, Al e xs ds → Al e (xs.take n) (ds.take n)
  | 0, _, _, h => .nil
  | _ + 1, _, _, .nil => .nil
  | n + 1, _, _, .cons a b => .cons a (b.take n)
theorem Al.get {α : Type} {e : EP α} : ∀ (n : Nat) {xs : List α} {ds : List D} {x : α}, Al e xs ds → xs[n]? = some x → ∃ d, ds[n]? = some d ∧ e x d
  | _, _, _, _, .nil, h => by simp at h
  | 0, _, _, _, .cons a b, h => by simp at h; subst h; exact ⟨_, rfl, a⟩
  | n + 1, _, _, _, .cons a b, h => by simpa using b.get n (by simpa using h)
theorem al_ints (ns : List Int) : Al eI ns (ns.map D.int) := by
  induction ns with
  | nil => exact .nil
  | cons n ns ih => exact .cons rfl ih
theorem Al.ints {ns : List Int} {ds : List D} (h : Al eI ns ds) : ds = ns.map D.int := by
  induction h with
  | nil => rfl
  | cons a b ih => rw [show _ = _ from a, ih]; rfl
inductive Slot : Type 1
  | any
  | val {α : Type} (e : EP α) (x : α)
def Slot.h : Slot → Option D → Prop
  | .any, _ => True
  | .val e x, o => ∃ d, o = some d ∧ e x d
def Is : List Slot → Env → Prop
  | [], τ => τ = []
  | p :: ps, τ => ∃ o r, τ = o :: r ∧ p.h o ∧ Is ps r
def nth : List Slot → Nat → Slot
  | [], _ => .any
  | p :: _, 0 => p
  | _ :: ps, n + 1 => nth ps n
def put : List Slot → Nat → Slot → List Slot
  | [], _, _ => []
  | _ :: ps, 0, q => q :: ps
  | p :: ps, n + 1, q => p :: put ps n q
theorem Is.get {α : Type} {e : EP α} {x : α} : ∀ {G : List Slot} {τ : Env} {i : Nat}, Is G τ → nth G i = .val e x → ∃ d, τ.getD i none = some d ∧ e x d
  | [], _, _, _, q => by cases q
  | p :: ps, _, 0, ⟨o, r, h, h1, _⟩, q => by
    have q : p = .val e x := q
    subst q; subst h
    exact h1
  | p :: ps, _, n + 1, ⟨o, r, h, _, h2⟩, q => by
    subst h
    exact Is.get (i := n) h2 q
theorem Is.put {q : Slot} {o : Option D} (hq : q.h o) : ∀ {G : List Slot} {τ : Env} (i : Nat), Is G τ → Is (put G i q) (τ.set i o)
  | [], _, _, h => by rw [show _ = [] from h]; exact rfl
  | p :: ps, _, 0, ⟨_, r, h, h1, h2⟩ => by subst h; exact ⟨o, r, rfl, hq, h2⟩
  | p :: ps, _, n + 1, ⟨_, r, h, h1, h2⟩ => by subst h; exact ⟨_, _, rfl, h1, Is.put hq n h2⟩
theorem Is.len : ∀ {G : List Slot} {τ : Env}, Is G τ → τ.length = G.length
  | [], _, h => by rw [show _ = [] from h]; rfl
  | p :: ps, _, ⟨_, r, h, h1, h2⟩ => by subst h; exact congrArg (· + 1) h2.len
def Ent (G G' : List Slot) : Prop := ∀ τ, Is G τ → Is G' τ
def Se (p q : Slot) : Prop := ∀ o, p.h o → q.h o
theorem se_id {p : Slot} : Se p p := fun _ h => h
theorem se_any {p : Slot} : Se p .any := fun _ _ => trivial
theorem ent_id {G : List Slot} : Ent G G := fun _ h => h
theorem ent_nil : Ent [] [] := fun _ h => h
theorem ent_cons {p q : Slot} {G G' : List Slot} (h : Se p q) (k : Ent G G') : Ent (p :: G) (q :: G') := fun _ ⟨o, r, a, b, c⟩ => ⟨o, r, a, h _ b, k _ c⟩
def Sat {α β : Type} (r : R β) (v : N α) (P : α → β → Env → Prop) (X : Env → Prop) : Prop := match v with
  | .ok a => ∃ d τ', r = .ok d τ' ∧ P a d τ'
  | .ex c => ∃ τ', r = .ex c τ' ∧ X τ'
  | .bad => True
theorem Sat.bind {α β α' β' : Type} {r : R β} {v : N α} {P : α → β → Env → Prop} {X : Env → Prop} {k : β → Env → R β'} {w : α → N α'} {Q : α' → β' → Env → Prop} (h : Sat r v P X) (q : ∀ a d τ, P a d τ → Sat (k d τ) (w a) Q X) : Sat (r.bind k) (v.bind w) Q X := by
  cases v with
  | ok a =>
    obtain ⟨d, τ', e, p⟩ := h
    rw [e]
    exact q a d τ' p
  | ex c =>
    obtain ⟨τ', e, p⟩ := h
    rw [e]
    exact ⟨τ', rfl, p⟩
  | bad => trivial
def Noex {α : Type} (v : N α) : Prop := ∀ c, v ≠ .ex c
theorem noex_ok {α : Type} {a : α} : Noex (N.ok a) := fun c h => by cases h
theorem noex_bind {α β : Type} {v : N α} {k : α → N β} (h : Noex v) (q : ∀ a, Noex (k a)) : Noex (v.bind k) := fun c z => by
  cases v with
  | ok a => exact q a c z
  | ex c' => exact h c' rfl
  | bad => cases z
def VZ {α : Type} (m : MZ) (G : List Slot) (v : N α) (e : EP α) : Prop := Noex v ∧ ∀ τ, Is G τ → ∀ a, v = .ok a → ∃ d, m τ = some d ∧ e a d
def VE {α : Type} (m : ME) (G : List Slot) (v : N α) (e : EP α) (G' : List Slot) (X : Env → Prop) : Prop := ∀ τ, Is G τ → Sat (m τ) v (fun a d τ' => e a d ∧ Is G' τ') X
def VT (m : MT) (G : List Slot) (v : N Bool) (G' : List Slot) (X : Env → Prop) : Prop := ∀ τ, Is G τ → Sat (m τ) v (fun a d τ' => a = d ∧ Is G' τ') X
def VA {α : Type} (m : MA) (G : List Slot) (v : N α) (e : EL α) (G' : List Slot) (X : Env → Prop) : Prop := ∀ τ, Is G τ → Sat (m τ) v (fun a d τ' => e a d ∧ Is G' τ') X
def VP (m : Env → R (Option Int)) (G : List Slot) (v : N (Option Int)) (G' : List Slot) (X : Env → Prop) : Prop := ∀ τ, Is G τ → Sat (m τ) v (fun a d τ' => a = d ∧ Is G' τ') X
section
variable {α β γ : Type} {G G1 G2 G' : List Slot} {X : Env → Prop}
theorem N.bind_of {v : N α} {k : α → N β} {b : β} (h : v.bind k = .ok b) : ∃ a, v = .ok a ∧ k a = .ok b := by
  cases v with
  | ok a => exact ⟨a, rfl, h⟩
  | ex c => cases h
  | bad => cases h
theorem vz_var {i : Nat} {e : EP α} {x : α} (h : nth G i = .val e x := by rfl) : VZ (zVar i) G (.ok x) e := ⟨noex_ok, fun τ s a q => by
  cases q; exact s.get h⟩
theorem vz_c {d : D} {e : EP α} {x : α} (h : e x d) : VZ (zC d) G (.ok x) e := ⟨noex_ok, fun τ s a q => by
  cases q; exact ⟨d, rfl, h⟩⟩
theorem vz_i {i : Int} : VZ (zC (.int i)) G (.ok i) eI := vz_c rfl
theorem vz_b {b : Bool} : VZ (zC (.bl b)) G (.ok b) eB := vz_c rfl
theorem vz_s {s : Str} : VZ (zC (.str s)) G (.ok s) eS := vz_c rfl
def Op (g : D → D → Option D) (f : α → β → N γ) (e1 : EP α) (e2 : EP β) (e3 : EP γ) : Prop := ∀ a b d1 d2 c, e1 a d1 → e2 b d2 → f a b = .ok c → ∃ d, g d1 d2 = some d ∧ e3 c d
def Un (g : D → Option D) (f : α → N γ) (e1 : EP α) (e3 : EP γ) : Prop := ∀ a d1 c, e1 a d1 → f a = .ok c → ∃ d, g d1 = some d ∧ e3 c d
def Cl (g : List D → Option D) (f : α → N γ) (e1 : EL α) (e3 : EP γ) : Prop := ∀ a d1 c, e1 a d1 → f a = .ok c → ∃ d, g d1 = some d ∧ e3 c d
def Nx2 (f : α → β → N γ) : Prop := ∀ a b c, f a b ≠ .ex c
def Nx1 (f : α → N γ) : Prop := ∀ a c, f a ≠ .ex c
theorem vz_2 {m n : MZ} {g : D → D → Option D} {f : α → β → N γ} {e1 : EP α} {e2 : EP β} {e3 : EP γ} {v1 : N α} {v2 : N β} {v : N γ} (h1 : VZ m G v1 e1) (h2 : VZ n G v2 e2) (o : Op g f e1 e2 e3) (nx : Nx2 f) (hv : v = v1.bind fun a => v2.bind fun b => f a b := by first | with_reducible rfl | simp only [N.bind_ok, N.bind_assoc] | rfl) : VZ (Bn.z2 g m n) G v e3 := ⟨by rw [hv]; exact noex_bind h1.1 fun a => noex_bind h2.1 fun b => nx a b, fun τ s c q => by
  rw [hv] at q
  obtain ⟨a, ea, q⟩ := N.bind_of q
  obtain ⟨b, eb, q⟩ := N.bind_of q
  obtain ⟨d1, k1, k2⟩ := h1.2 τ s a ea
  obtain ⟨d2, l1, l2⟩ := h2.2 τ s b eb
  obtain ⟨d, p1, p2⟩ := o a b d1 d2 c k2 l2 q
  exact ⟨d, by unfold Bn.z2; rw [k1, l1]; exact p1, p2⟩⟩
theorem vz_1 {m : MZ} {g : D → Option D} {f : α → N γ} {e1 : EP α} {e3 : EP γ} {v1 : N α} {v : N γ} (h1 : VZ m G v1 e1) (o : Un g f e1 e3) (nx : Nx1 f) (hv : v = v1.bind fun a => f a := by first | with_reducible rfl | simp only [N.bind_ok, N.bind_assoc] | rfl) : VZ (Bn.z1 g m) G v e3 := ⟨by rw [hv]; exact noex_bind h1.1 fun a => nx a, fun τ s c q => by
  rw [hv] at q
  obtain ⟨a, ea, q⟩ := N.bind_of q
  obtain ⟨d1, k1, k2⟩ := h1.2 τ s a ea
  obtain ⟨d, p1, p2⟩ := o a d1 c k2 q
  exact ⟨d, by unfold Bn.z1; rw [k1]; exact p1, p2⟩⟩
def VZA (m : Env → Option (List D)) (G : List Slot) (v : N α) (e : EL α) : Prop := Noex v ∧ ∀ τ, Is G τ → ∀ a, v = .ok a → ∃ d, m τ = some d ∧ e a d
theorem vza_one {m : MZ} {e : EP α} {v : N α} (h : VZ m G v e) : VZA (zaCons m zaNil) G v (eOne e) := ⟨h.1, fun τ s a q => by
  obtain ⟨d, k1, k2⟩ := h.2 τ s a q
  exact ⟨[d], by unfold zaCons; rw [k1]; rfl, d, rfl, k2⟩⟩
theorem vza_cons {m : MZ} {n : Env → Option (List D)} {e : EP α} {es : EL β} {v : N α} {w : N β} {u : N (α × β)} (h : VZ m G v e) (k : VZA n G w es) (hv : u = v.bind fun a => w.bind fun b => .ok (a, b) := by first | with_reducible rfl | simp only [N.bind_ok, N.bind_assoc] | rfl) : VZA (zaCons m n) G u (eCons e es) := ⟨by rw [hv]; exact noex_bind h.1 fun a => noex_bind k.1 fun b => noex_ok, fun τ s a q => by
  rw [hv] at q
  obtain ⟨a, ea, q⟩ := N.bind_of q
  obtain ⟨b, eb, q⟩ := N.bind_of q
  cases q
  obtain ⟨d, k1, k2⟩ := h.2 τ s a ea
  obtain ⟨r, l1, l2⟩ := k.2 τ s b eb
  exact ⟨d :: r, by unfold zaCons; rw [k1, l1]; rfl, d, r, rfl, k2, l2⟩⟩
theorem vz_call {m : Env → Option (List D)} {g : List D → Option D} {f : α → N γ} {ea : EL α} {e3 : EP γ} {v1 : N α} {v : N γ} (h : VZA m G v1 ea) (o : Cl g f ea e3) (nx : Nx1 f) (hv : v = v1.bind fun a => f a := by first | with_reducible rfl | simp only [N.bind_ok, N.bind_assoc] | rfl) : VZ (zC' g m) G v e3 := ⟨by rw [hv]; exact noex_bind h.1 fun a => nx a, fun τ s c q => by
  rw [hv] at q
  obtain ⟨a, ea', q⟩ := N.bind_of q
  obtain ⟨d1, k1, k2⟩ := h.2 τ s a ea'
  obtain ⟨d, p1, p2⟩ := o a d1 c k2 q
  exact ⟨d, by unfold zC'; rw [k1]; exact p1, p2⟩⟩
theorem ve_z {m : MZ} {v : N α} {e : EP α} (h : VZ m G v e) (z : Zf e) : VE (eZ m) G v e G X := fun τ s => by
  cases v with
  | ok a =>
    obtain ⟨d, k1, k2⟩ := h.2 τ s a rfl
    refine ⟨d, τ, ?_, k2, s⟩
    unfold eZ
    rw [k1]
    show (if isFz d = true then _ else _) = _
    rw [if_pos (z _ _ k2)]
  | ex c => exact absurd rfl (h.1 c)
  | bad => trivial
theorem ve_varF {i : Nat} {e : EP α} {x : α} (z : Zf e) (h : nth G i = .val e x := by rfl) : VE (eVar i) G (.ok x) e G X := fun τ s => by
  obtain ⟨d, k1, k2⟩ := s.get h
  refine ⟨d, τ, ?_, k2, s⟩
  unfold eVar; rw [k1]
  show (if isFz d = true then _ else _) = _
  rw [if_pos (z _ _ k2)]
theorem ve_mv {i : Nat} {e : EP α} {x : α} (h : nth G i = .val e x := by rfl) : VE (eMv i) G (.ok x) e (put G i .any) X := fun τ s => by
  obtain ⟨d, k1, k2⟩ := s.get h
  exact ⟨d, τ.set i none, by unfold eMv; rw [k1], k2, Is.put (q := Slot.any) (o := none) (show Slot.h _ _ from True.intro) i s⟩
theorem sat_ofO {o : Option D} {τ : Env} {v : N γ} {e : EP γ} {G : List Slot} (z : Zf e) (s : Is G τ) (nx : ∀ c, v ≠ .ex c) (h : ∀ c, v = .ok c → ∃ d, o = some d ∧ e c d) : Sat (ofO o τ) v (fun a d τ' => e a d ∧ Is G τ') X := by
  cases v with
  | ok c =>
    obtain ⟨d, k1, k2⟩ := h c rfl
    refine ⟨d, τ, ?_, k2, s⟩
    rw [k1]
    show (if isFz d = true then _ else _) = _
    rw [if_pos (z _ _ k2)]
  | ex c => exact absurd rfl (nx c)
  | bad => trivial
theorem ve_2 {m n : ME} {g : D → D → Option D} {f : α → β → N γ} {e1 : EP α} {e2 : EP β} {e3 : EP γ} {v1 : N α} {v2 : N β} {v : N γ} (h1 : VE m G v1 e1 G1 X) (h2 : VE n G1 v2 e2 G2 X) (o : Op g f e1 e2 e3) (z : Zf e3) (nx : Nx2 f) (hv : v = v1.bind fun a => v2.bind fun b => f a b := by first | with_reducible rfl | simp only [N.bind_ok, N.bind_assoc] | rfl) : VE (Bn.e2 g m n) G v e3 G2 X := fun τ s => by
  rw [hv]
  exact (h1 τ s).bind fun a d1 τ1 ⟨k1, s1⟩ => (h2 τ1 s1).bind fun b d2 τ2 ⟨k2, s2⟩ => sat_ofO z s2 (nx a b) fun c q => o a b d1 d2 c k1 k2 q
theorem ve_1 {m : ME} {g : D → Option D} {f : α → N γ} {e1 : EP α} {e3 : EP γ} {v1 : N α} {v : N γ} (h1 : VE m G v1 e1 G1 X) (o : Un g f e1 e3) (z : Zf e3) (nx : Nx1 f) (hv : v = v1.bind fun a => f a := by first | with_reducible rfl | simp only [N.bind_ok, N.bind_assoc] | rfl) : VE (Bn.e1 g m) G v e3 G1 X := fun τ s => by
  rw [hv]
  exact (h1 τ s).bind fun a d1 τ1 ⟨k1, s1⟩ => sat_ofO z s1 (nx a) fun c q => o a d1 c k1 q
theorem va_one {m : ME} {e : EP α} {v : N α} (h : VE m G v e G1 X) : VA (aCons m aNil) G v (eOne e) G1 X := fun τ s => by
  have : v = v.bind N.ok := by cases v <;> rfl
  rw [this]
  exact (h τ s).bind fun a d τ1 ⟨k, s1⟩ => ⟨[d], τ1, rfl, ⟨d, rfl, k⟩, s1⟩
theorem va_cons {m : ME} {n : MA} {e : EP α} {es : EL β} {v : N α} {w : N β} {u : N (α × β)} (h : VE m G v e G1 X) (k : VA n G1 w es G2 X) (hv : u = v.bind fun a => w.bind fun b => .ok (a, b) := by first | with_reducible rfl | simp only [N.bind_ok, N.bind_assoc] | rfl) : VA (aCons m n) G u (eCons e es) G2 X := fun τ s => by
  rw [hv]
  exact (h τ s).bind fun a d τ1 ⟨k1, s1⟩ => (k τ1 s1).bind fun b ds τ2 ⟨k2, s2⟩ => ⟨d :: ds, τ2, rfl, ⟨d, ds, rfl, k1, k2⟩, s2⟩
theorem ve_c {m : MA} {g : List D → Option D} {f : α → N γ} {ea : EL α} {e3 : EP γ} {v1 : N α} {v : N γ} (h : VA m G v1 ea G1 X) (o : Cl g f ea e3) (z : Zf e3) (nx : Nx1 f) (hv : v = v1.bind fun a => f a := by first | with_reducible rfl | simp only [N.bind_ok, N.bind_assoc] | rfl) : VE (eC g m) G v e3 G1 X := fun τ s => by
  rw [hv]
  exact (h τ s).bind fun a d1 τ1 ⟨k1, s1⟩ => sat_ofO z s1 (nx a) fun c q => o a d1 c k1 q
def Len (ea : EL α) (n : Nat) : Prop := ∀ x ds, ea x ds → ds.length = n
theorem len_one {e : EP α} : Len (eOne e) 1 := fun _ _ ⟨_, h, _⟩ => by rw [h]; rfl
theorem len_cons {e : EP α} {es : EL β} {n : Nat} (h : Len es n) : Len (eCons e es) (n + 1) := fun _ _ ⟨_, _, q, _, k⟩ => by rw [q]; exact congrArg (· + 1) (h _ _ k)
theorem ve_tup {m : MA} {v : N α} {ea ea' : EL α} {n : Nat} (h : VA m G v ea G1 X) (z : FzL ea ea') (l : Len ea n) (hn : n ≤ 1000000 := by decide) : VE (eTup m) G v (eTu ea') G1 X := fun τ s => by
  have : v = v.bind N.ok := by cases v <;> rfl
  rw [this]
  exact (h τ s).bind fun a ds τ1 ⟨k1, s1⟩ => by
    refine ⟨.tup (freezeL ds), τ1, ?_, ⟨_, rfl, z _ _ k1⟩, s1⟩
    show (if _ then _ else _) = _
    rw [if_pos (by rw [l _ _ k1]; exact hn)]
def VL {α : Type} (m : MA) (G : List Slot) (k : Nat) (v : N (List α)) (e : EP α) (G' : List Slot) (X : Env → Prop) : Prop := ∀ τ, Is G τ → Sat (m τ) v (fun a d τ' => (Al e a d ∧ d.length = k) ∧ Is G' τ') X
theorem vl_nil {e : EP α} : VL aNil G 0 (.ok []) e G X := fun τ s => ⟨[], τ, rfl, ⟨.nil, rfl⟩, s⟩
theorem vl_cons {m : ME} {n : MA} {e : EP α} {k : Nat} {v : N α} {w u : N (List α)} (h : VE m G v e G1 X) (q : VL n G1 k w e G2 X) (hv : u = v.bind fun a => w.bind fun b => .ok (a :: b) := by first | with_reducible rfl | simp only [N.bind_ok, N.bind_assoc] | rfl) : VL (aCons m n) G (k + 1) u e G2 X := fun τ s => by
  rw [hv]
  exact (h τ s).bind fun a d τ1 ⟨k1, s1⟩ => (q τ1 s1).bind fun b ds τ2 ⟨k2, s2⟩ => ⟨d :: ds, τ2, rfl, ⟨.cons k1 k2.1, congrArg (· + 1) k2.2⟩, s2⟩
theorem ve_lst {m : MA} {k : Nat} {v : N (List α)} {e : EP α} (h : VL m G k v e G1 X) (hk : k ≤ 1000000 := by decide) : VE (eLst m) G v (eLi true e) G1 X := fun τ s => by
  have : v = v.bind N.ok := by cases v <;> rfl
  rw [this]
  exact (h τ s).bind fun a ds τ1 ⟨k1, s1⟩ => by
    refine ⟨.lst true ds, τ1, ?_, ⟨_, rfl, k1.1⟩, s1⟩
    show (if _ then _ else _) = _
    rw [if_pos (by rw [k1.2]; exact hk)]
theorem vt_z {m : MZ} {v : N Bool} (h : VZ m G v eB) : VT (tZ m) G v G X := fun τ s => by
  cases v with
  | ok a =>
    obtain ⟨d, k1, k2⟩ := h.2 τ s a rfl
    cases (show d = .bl a from k2)
    exact ⟨a, τ, by unfold tZ; rw [k1], rfl, s⟩
  | ex c => exact absurd rfl (h.1 c)
  | bad => trivial
theorem vt_e {m : ME} {v : N Bool} (h : VE m G v eB G1 X) : VT (tE m) G v G1 X := fun τ s => by
  have : v = v.bind N.ok := by cases v <;> rfl
  rw [this]
  exact (h τ s).bind fun a d τ1 ⟨k1, s1⟩ => by
    cases (show d = .bl a from k1)
    exact ⟨a, τ1, rfl, rfl, s1⟩
theorem vt_ent {m : MT} {v : N Bool} (h : VT m G v G1 X) (k : Ent G1 G') : VT m G v G' X := fun τ s => by
  have q := h τ s
  cases v with
  | ok a => obtain ⟨d, τ', e1, e2, e3⟩ := q; exact ⟨d, τ', e1, e2, k _ e3⟩
  | ex c => exact q
  | bad => trivial
def N.and (v w : N Bool) : N Bool := v.bind fun a => if a = true then w else .ok false
def N.or (v w : N Bool) : N Bool := v.bind fun a => if a = true then .ok true else w
def N.not (v : N Bool) : N Bool := v.bind fun a => .ok !a
theorem vt_and {m n : MT} {v w : N Bool} (h : VT m G v G1 X) (k : VT n G1 w G2 X) (j : Ent G1 G2) : VT (tAnd m n) G (N.and v w) G2 X := fun τ s => (h τ s).bind fun a d τ1 ⟨k1, s1⟩ => by
  subst k1
  cases a with
  | true => rw [if_pos rfl, if_pos rfl]; exact k τ1 s1
  | false => rw [if_neg (by decide), if_neg (by decide)]; exact ⟨false, τ1, rfl, rfl, j _ s1⟩
theorem vt_or {m n : MT} {v w : N Bool} (h : VT m G v G1 X) (k : VT n G1 w G2 X) (j : Ent G1 G2) : VT (tOr m n) G (N.or v w) G2 X := fun τ s => (h τ s).bind fun a d τ1 ⟨k1, s1⟩ => by
  subst k1
  cases a with
  | true => rw [if_pos rfl, if_pos rfl]; exact ⟨true, τ1, rfl, rfl, j _ s1⟩
  | false => rw [if_neg (by decide), if_neg (by decide)]; exact k τ1 s1
theorem vt_not {m : MT} {v : N Bool} (h : VT m G v G1 X) : VT (tNot m) G (N.not v) G1 X := fun τ s => (h τ s).bind fun a d τ1 ⟨k1, s1⟩ => by
  subst k1
  exact ⟨!a, τ1, rfl, rfl, s1⟩
theorem ve_and {m n : ME} {v w : N Bool} (h : VE m G v eB G1 X) (k : VE n G1 w eB G2 X) (j : Ent G1 G2) : VE (eAnd m n) G (N.and v w) eB G2 X := fun τ s => (h τ s).bind fun a d τ1 ⟨k1, s1⟩ => by
  cases (show d = .bl a from k1)
  cases a with
  | true => rw [if_pos rfl]; exact k τ1 s1
  | false => rw [if_neg (by decide)]; exact ⟨.bl false, τ1, rfl, rfl, j _ s1⟩
theorem ve_not {m : ME} {v : N Bool} (h : VE m G v eB G1 X) : VE (eNot m) G (N.not v) eB G1 X := fun τ s => (h τ s).bind fun a d τ1 ⟨k1, s1⟩ => by
  cases (show d = .bl a from k1)
  exact ⟨.bl !a, τ1, rfl, rfl, s1⟩
def SatC {γ : Type} (r : CR) (v : N γ) (e : EP γ) : Prop := match v with
  | .ok a => ∃ d, r = .ok d ∧ e a d
  | .ex c => r = .ex c
  | .bad => True
def VF (f : List D → CR) (n : α → N γ) (ea : EL α) (er : EP γ) : Prop := ∀ a ds, ea a ds → SatC (f ds) (n a) er
theorem sat_ofC {r : CR} {τ : Env} {v : N γ} {e : EP γ} (h : SatC r v e) (s : Is G τ) (x : ∀ τ, Is G τ → X τ) : Sat (ofC r τ) v (fun a d τ' => e a d ∧ Is G τ') X := by
  cases v with
  | ok a =>
    obtain ⟨d, e1, e2⟩ := h
    rw [e1]
    exact ⟨d, τ, rfl, e2, s⟩
  | ex c =>
    rw [show r = .ex c from h]
    exact ⟨τ, rfl, x _ s⟩
  | bad => trivial
theorem ve_call {m : MA} {f : List D → CR} {n : α → N γ} {ea ea' : EL α} {er : EP γ} {v1 : N α} {v : N γ} (h : VA m G v1 ea G1 X) (k : VF f n ea' er) (z : FzL ea ea') (x : ∀ τ, Is G1 τ → X τ) (hv : v = v1.bind fun a => n a := by first | with_reducible rfl | simp only [N.bind_ok, N.bind_assoc] | rfl) : VE (eCall f m) G v er G1 X := fun τ s => by
  rw [hv]
  exact (h τ s).bind fun a ds τ1 ⟨k1, s1⟩ => sat_ofC (k a _ (z _ _ k1)) s1 x
end
end Bn
namespace Bn
open PySem PySem.Spec PyProof.Rows L2
def VI {α : Type} (m : MA) (G : List Slot) (v : N (List α)) (e : EP α) (G' : List Slot) (X : Env → Prop) : Prop := ∀ τ, Is G τ → Sat (m τ) v (fun a d τ' => Al e a d ∧ Is G' τ') X
@[irreducible] def N.range (n : Int) : N (List Int) := if -(2 ^ 62) ≤ n ∧ n < 2 ^ 62 then .ok ((List.range n.toNat).map fun k : Nat => (k : Int)) else .bad
@[irreducible] def N.rangeN (i j : Int) : N (List Int) := if -(2 ^ 62) ≤ i ∧ i < 2 ^ 62 ∧ -(2 ^ 62) ≤ j ∧ j < 2 ^ 62 then .ok ((List.range (i - j).toNat).map fun k : Nat => i + (k : Int) * (-1)) else .bad
def signs (s : Str) : List Str := s.cps.toList.map fun c => ⟨#[c]⟩
theorem N.range_ok {n : Nat} (h : (n : Int) < 2 ^ 62) : N.range (n : Int) = .ok ((List.range n).map fun k : Nat => (k : Int)) := by
  unfold N.range
  rw [if_pos ⟨by omega, h⟩, Int.toNat_natCast]
section
variable {α β γ : Type} {G G1 G2 G' : List Slot} {X : Env → Prop}
theorem vi_s {m : ME} {v : N Str} {w : N (List Str)} (h : VE m G v eS G1 X) (hw : w = v.bind fun s => .ok (signs s) := by first | with_reducible rfl | simp only [N.bind_ok, N.bind_assoc] | rfl) : VI (iS m) G w eS G1 X := fun τ s => by
  rw [hw]
  exact (h τ s).bind fun a d τ1 ⟨k1, s1⟩ => by
    cases (show d = .str a from k1)
    refine ⟨strD a, τ1, rfl, ?_, s1⟩
    unfold strD signs
    induction a.cps.toList with
    | nil => exact .nil
    | cons c cs ih => exact .cons rfl ih
theorem Al.rev {e : EP α} : ∀ {xs : List α} {ds : List D}, Al e xs ds → Al e xs.reverse ds.reverse
  | _, _, .nil => .nil
  | _, _, .cons a b => by rw [List.reverse_cons, List.reverse_cons]; exact b.rev.append (.cons a .nil)
def VG (g : D → Env → Option Env) (e : EP α) (p : α → List Slot → List Slot) : Prop := ∀ a d τ G, e a d → Is G τ → ∃ τ', g d τ = some τ' ∧ Is (p a G) τ'
theorem vg_n {i : Nat} {e : EP α} : VG (gN i) e fun a G => put G i (.val e a) := fun a d τ G h s => ⟨_, rfl, Is.put (q := Slot.val e a) (o := some d) (show Slot.h _ _ from ⟨d, rfl, h⟩) i s⟩
end
section
variable {α β γ σ σ' κ ρ : Type} {G G1 G2 : List Slot} {G' : σ → List Slot} {L : κ → List Slot} {er : ρ → D → Env → Prop} {X : Env → Prop}
def SatS (r : SR) (n : NS σ κ ρ) (G' : σ → List Slot) (L : κ → List Slot) (er : ρ → D → Env → Prop) (X : Env → Prop) : Prop := match n with
  | .nx s => ∃ τ', r = .nx τ' ∧ Is (G' s) τ'
  | .bk l => ∃ τ', r = .bk τ' ∧ Is (L l) τ'
  | .ct l => ∃ τ', r = .ct τ' ∧ Is (L l) τ'
  | .rt a => ∃ d τ', r = .rt d τ' ∧ er a d τ'
  | .ex c => ∃ τ', r = .ex c τ' ∧ X τ'
  | .bad => True
def VS (m : MS) (G : List Slot) (n : NS σ κ ρ) (G' : σ → List Slot) (L : κ → List Slot) (er : ρ → D → Env → Prop) (X : Env → Prop) : Prop := ∀ τ, Is G τ → SatS (m τ) n G' L er X
theorem Sat.s {β' : Type} {r : R β} {v : N α} {P : α → β → Env → Prop} {k : β → Env → SR} {w : α → NS σ κ ρ} (h : Sat r v P X) (q : ∀ a d τ, P a d τ → SatS (k d τ) (w a) G' L er X) : SatS (r.s k) (v.s w) G' L er X := by
  cases v with
  | ok a =>
    obtain ⟨d, τ', e, p⟩ := h
    rw [e]
    exact q a d τ' p
  | ex c =>
    obtain ⟨τ', e, p⟩ := h
    rw [e]
    exact ⟨τ', rfl, p⟩
  | bad => trivial
theorem Sat.sSeq {β' : Type} {r : R β} {v : N α} {P : α → β → Env → Prop} {k : β → Env → SR} {b : MS} {w : α → NS σ κ ρ} (h : Sat r v P X) (q : ∀ a d τ, P a d τ → SatS (Bn.sSeq (fun _ => k d τ) b τ) (w a) G' L er X) : SatS (Bn.sSeq (fun _ => r.s k) b []) (v.s w) G' L er X := by
  cases v with
  | ok a =>
    obtain ⟨d, τ', e, p⟩ := h
    rw [e]
    exact q a d τ' p
  | ex c =>
    obtain ⟨τ', e, p⟩ := h
    rw [e]
    exact ⟨τ', rfl, p⟩
  | bad => trivial
theorem SatS.seq {r : SR} {n : NS σ' κ ρ} {G1 : σ' → List Slot} {b : MS} {k : σ' → NS σ κ ρ} (h : SatS r n G1 L er X) (q : ∀ s τ, Is (G1 s) τ → SatS (b τ) (k s) G' L er X) : SatS (Bn.sSeq (fun _ => r) b []) (n.s k) G' L er X := by
  cases n with
  | nx s => obtain ⟨τ', e, p⟩ := h; rw [e]; exact q s τ' p
  | bk s => obtain ⟨τ', e, p⟩ := h; rw [e]; exact ⟨τ', rfl, p⟩
  | ct s => obtain ⟨τ', e, p⟩ := h; rw [e]; exact ⟨τ', rfl, p⟩
  | rt s => obtain ⟨d, τ', e, p⟩ := h; rw [e]; exact ⟨d, τ', rfl, p⟩
  | ex s => obtain ⟨τ', e, p⟩ := h; rw [e]; exact ⟨τ', rfl, p⟩
  | bad => trivial
theorem vs_one {m : MS} {n : NS σ κ ρ} (h : VS (sSeq m sNil) G n G' L er X) : VS m G n G' L er X := fun τ s => by
  have q := h τ s
  have : sSeq m sNil τ = m τ := by unfold sSeq sNil; cases m τ <;> rfl
  rw [this] at q; exact q
theorem vs_end {s : σ} (h : Ent G (G' s)) : VS sNil G (.nx s : NS σ κ ρ) G' L er X := fun τ q => ⟨τ, rfl, h τ q⟩
theorem vs_doc {r : MS} {n : NS σ κ ρ} (h : VS r G n G' L er X) : VS (sSeq sNil r) G n G' L er X := h
theorem vs_stop {a c : MS} {n : NS σ κ ρ} (h : VS a G n (fun _ => [.val (fun (_ : Unit) _ => False) ()]) L er X) : VS (sSeq a c) G n G' L er X := fun τ s => by
  have q := h τ s
  show SatS (sSeq a c τ) n G' L er X
  unfold sSeq
  cases n with
  | nx s => obtain ⟨τ', e, _, _, _, ⟨_, _, p⟩, _⟩ := q; exact p.elim
  | bk s => obtain ⟨τ', e, p⟩ := q; rw [e]; exact ⟨τ', rfl, p⟩
  | ct s => obtain ⟨τ', e, p⟩ := q; rw [e]; exact ⟨τ', rfl, p⟩
  | rt s => obtain ⟨d, τ', e, p⟩ := q; rw [e]; exact ⟨d, τ', rfl, p⟩
  | ex s => obtain ⟨τ', e, p⟩ := q; rw [e]; exact ⟨τ', rfl, p⟩
  | bad => trivial
theorem vs_asg {m : ME} {g : D → Env → Option Env} {r : MS} {v : N α} {e : EP α} {p : α → List Slot → List Slot} {k : α → NS σ κ ρ} (h : VE m G v e G1 X) (hg : VG g e p) (hr : ∀ a, VS r (p a G1) (k a) G' L er X) : VS (sSeq (sAsg m g) r) G (v.s k) G' L er X := fun τ s => by
  exact (h τ s).sSeq (β' := D) (k := fun d τ1 => match g d τ1 with | some τ2 => .nx τ2 | none => .bad) fun a d τ1 ⟨k1, s1⟩ => by
    obtain ⟨τ2, e1, e2⟩ := hg a d τ1 G1 k1 s1
    show SatS (Bn.sSeq (fun _ => match g d τ1 with | some τ2 => .nx τ2 | none => .bad) r τ1) (k a) G' L er X
    rw [e1]
    exact hr a τ2 e2
theorem vs_asgP {m : ME} {g : D → Env → Option Env} {r : MS} {a : α} {e : EP α} {p : α → List Slot → List Slot} {n : NS σ κ ρ} (h : VE m G (.ok a) e G1 X) (hg : VG g e p) (hr : VS r (p a G1) n G' L er X) : VS (sSeq (sAsg m g) r) G n G' L er X := fun τ s => by
  obtain ⟨d, τ1, e0, k1, s1⟩ := h τ s
  obtain ⟨τ2, e1, e2⟩ := hg a d τ1 G1 k1 s1
  have : sSeq (sAsg m g) r τ = r τ2 := by
    unfold sSeq sAsg
    rw [e0]
    show (match (match g d τ1 with | some τ2 => SR.nx τ2 | none => .bad) with | .nx τ' => r τ' | .rt d τ' => .rt d τ' | .bk τ' => .bk τ' | .ct τ' => .ct τ' | .ex c τ' => .ex c τ' | .bad => .bad) = _
    rw [e1]
  rw [this]
  exact hr τ2 e2
theorem vs_ret {m : ME} {v : N α} {e : EP α} (h : VE m G v e G1 X) (f : α → ρ) (z : ∀ a d τ, e a d → Is G1 τ → er (f a) d τ) : VS (sRet m) G (v.s fun a => .rt (f a)) G' L er X := fun τ s => by
  exact (h τ s).s (β' := D) fun a d τ1 ⟨k1, s1⟩ => ⟨d, τ1, rfl, z _ _ _ k1 s1⟩
theorem vs_drop {m : ME} {r : MS} {v : N α} {e : EP α} {n1 : NS σ κ ρ} (h : VE m G v e G1 X) (hr : VS r G1 n1 G' L er X) : VS (sSeq (sDrop m) r) G (v.s fun _ => n1) G' L er X := fun τ s => by
  exact (h τ s).sSeq (β' := D) (k := fun _ τ1 => .nx τ1) fun a d τ1 ⟨k1, s1⟩ => hr τ1 s1
theorem vs_raise {c : Str} (x : ∀ τ, Is G τ → X τ) : VS (sRaise c) G (.ex c : NS σ κ ρ) G' L er X := fun τ q => ⟨τ, rfl, x τ q⟩
theorem vs_if {c : MT} {a b r : MS} {v : N Bool} {n1 n2 : NS σ κ ρ} (h : VT c G v G1 X) (h1 : VS (sSeq a r) G1 n1 G' L er X) (h2 : VS (sSeq b r) G1 n2 G' L er X) : VS (sSeq (sIf c a b) r) G (v.s fun x => if x = true then n1 else n2) G' L er X := fun τ s => by
  exact (h τ s).sSeq (β' := D) (k := fun x τ1 => if x = true then a τ1 else b τ1) fun x d τ1 ⟨k1, s1⟩ => by
    subst k1
    cases x with
    | true =>
      rw [if_pos rfl]
      exact h1 τ1 s1
    | false =>
      rw [if_neg (by decide)]
      exact h2 τ1 s1
theorem vs_ifJ {c : MT} {a b r : MS} {v : N Bool} {n1 n2 : NS σ' κ ρ} {GJ : σ' → List Slot} {k : σ' → NS σ κ ρ} (h : VT c G v G1 X) (h1 : VS a G1 n1 GJ L er X) (h2 : VS b G1 n2 GJ L er X) (hr : ∀ s, VS r (GJ s) (k s) G' L er X) : VS (sSeq (sIf c a b) r) G ((v.s fun x => if x = true then n1 else n2).s k) G' L er X := fun τ s => by
  refine SatS.seq (r := sIf c a b τ) (G1 := GJ) ?_ fun s τ q => hr s τ q
  exact (h τ s).s (β' := D) fun x d τ1 ⟨k1, s1⟩ => by
    subst k1
    cases x with
    | true => rw [if_pos rfl]; exact h1 τ1 s1
    | false => rw [if_neg (by decide)]; exact h2 τ1 s1
theorem vs_ifP {c : MT} {a b r : MS} {x : Bool} {n1 n2 : NS σ κ ρ} (h : VT c G (.ok x) G1 X) (h1 : VS (sSeq a r) G1 n1 G' L er X) (h2 : VS (sSeq b r) G1 n2 G' L er X) : VS (sSeq (sIf c a b) r) G (if x = true then n1 else n2) G' L er X := vs_if h h1 h2
theorem vs_ifJP {c : MT} {a b r : MS} {x : Bool} {n1 n2 : NS σ' κ ρ} {GJ : σ' → List Slot} {k : σ' → NS σ κ ρ} (h : VT c G (.ok x) G1 X) (h1 : VS a G1 n1 GJ L er X) (h2 : VS b G1 n2 GJ L er X) (hr : ∀ s, VS r (GJ s) (k s) G' L er X) : VS (sSeq (sIf c a b) r) G ((if x = true then n1 else n2).s k) G' L er X := vs_ifJ h h1 h2 hr
theorem vs_retP {m : ME} {a : α} {e : EP α} (h : VE m G (.ok a) e G1 X) (f : α → ρ) (z : ∀ a d τ, e a d → Is G1 τ → er (f a) d τ) : VS (sRet m) G (.rt (f a) : NS σ κ ρ) G' L er X := vs_ret h f z
@[irreducible] def fuelN : Nat := 2 ^ 200
def forN (b : α → σ → NS σ σ ρ) : List α → σ → NS σ κ ρ
  | [], s => .nx s
  | x :: xs, s => match b x s with
    | .nx s' => forN b xs s'
    | .ct s' => forN b xs s'
    | .bk s' => .nx s'
    | .rt r => .rt r
    | .ex c => .ex c
    | .bad => .bad
theorem sat_forN {g : D → Env → Option Env} {body : MS} {e : EP α} {p : α → List Slot → List Slot} {GI : σ → List Slot} {nb : α → σ → NS σ σ ρ} (hg : VG g e p) (hb : ∀ x s, VS body (p x (GI s)) (nb x s) GI GI er X) : ∀ {xs : List α} {ds : List D} (s : σ) (τ : Env), Al e xs ds → Is (GI s) τ → SatS (forL g body ds τ) (forN nb xs s : NS σ κ ρ) GI L er X
  | _, _, s, τ, .nil, q => ⟨τ, rfl, q⟩
  | _, _, s, τ, .cons (x := x) (d := d) (xs := xs) (ds := ds) a t, q => by
    obtain ⟨τ1, e1, e2⟩ := hg x d τ _ a q
    have k := hb x s τ1 e2
    unfold forN forL
    rw [e1]
    show SatS (match body τ1 with | .nx τ2 => forL g body ds τ2 | .ct τ2 => forL g body ds τ2 | .bk τ2 => .nx τ2 | .rt d τ2 => .rt d τ2 | .ex c τ2 => .ex c τ2 | .bad => .bad) _ _ _ _ _
    cases e3 : nb x s with
    | nx s' => rw [e3] at k; obtain ⟨τ2, k1, k2⟩ := k; rw [k1]; exact sat_forN hg hb s' τ2 t k2
    | ct s' => rw [e3] at k; obtain ⟨τ2, k1, k2⟩ := k; rw [k1]; exact sat_forN hg hb s' τ2 t k2
    | bk s' => rw [e3] at k; obtain ⟨τ2, k1, k2⟩ := k; rw [k1]; exact ⟨τ2, rfl, k2⟩
    | rt r => rw [e3] at k; obtain ⟨d2, τ2, k1, k2⟩ := k; rw [k1]; exact ⟨d2, τ2, rfl, k2⟩
    | ex c => rw [e3] at k; obtain ⟨τ2, k1, k2⟩ := k; rw [k1]; exact ⟨τ2, rfl, k2⟩
    | bad => trivial
theorem vs_for {it : MA} {g : D → Env → Option Env} {body r : MS} {v : N (List α)} {e : EP α} {p : α → List Slot → List Slot} {GI : σ' → List Slot} {nb : α → σ' → NS σ' σ' ρ} {s0 : σ'} {k : σ' → NS σ κ ρ} (h : VI it G v e G1 X) (hg : VG g e p) (h0 : Ent G1 (GI s0)) (hb : ∀ x s, VS body (p x (GI s)) (nb x s) GI GI er X) (hr : ∀ s, VS r (GI s) (k s) G' L er X)
 : VS (sSeq (sFor it g body) r) G (v.s fun xs => (forN nb xs s0).s k) G' L er X := fun τ s => by
  exact (h τ s).sSeq (β' := D) (k := fun items τ1 => forL g body items τ1) fun xs ds τ1 ⟨k1, s1⟩ => SatS.seq (r := forL g body ds τ1) (G1 := GI) (sat_forN hg hb s0 τ1 k1 (h0 _ s1)) fun s τ q => hr s τ q
def whileN (c : σ → N Bool) (b : σ → NS σ σ ρ) : Nat → σ → NS σ κ ρ
  | 0, _ => .bad
  | n + 1, s => match c s with
    | .ok true => (match b s with
      | .nx s' => whileN c b n s'
      | .ct s' => whileN c b n s'
      | .bk s' => .nx s'
      | .rt r => .rt r
      | .ex e => .ex e
      | .bad => .bad)
    | .ok false => .nx s
    | .ex e => .ex e
    | .bad => .bad
theorem sat_whileN {c : MT} {body : MS} {GI GC : σ → List Slot} {nc : σ → N Bool} {nb : σ → NS σ σ ρ} (hc : ∀ s, VT c (GI s) (nc s) (GC s) X) (hb : ∀ s, VS body (GC s) (nb s) GI GI er X) (hi : ∀ s, Ent (GI s) (GC s)) : ∀ (n : Nat) (s : σ) (τ : Env), Is (GI s) τ → SatS (whileM c body n τ) (whileN nc nb n s : NS σ κ ρ) GC L er X
  | 0, s, τ, q => trivial
  | n + 1, s, τ, q => by
    have k := hc s τ q
    unfold whileN whileM
    cases e3 : nc s with
    | ok b =>
      rw [e3] at k
      obtain ⟨d, τ1, k1, k2, k3⟩ := k
      subst k2
      rw [k1]
      cases b with
      | false => exact ⟨τ1, rfl, k3⟩
      | true =>
        have k := hb s τ1 k3
        show SatS (match body τ1 with | .nx τ2 => whileM c body n τ2 | .ct τ2 => whileM c body n τ2 | .bk τ2 => .nx τ2 | .rt d τ2 => .rt d τ2 | .ex e τ2 => .ex e τ2 | .bad => .bad) (match nb s with | .nx s' => whileN nc nb n s' | .ct s' => whileN nc nb n s' | .bk s' => .nx s' | .rt r => .rt r | .ex e => .ex e | .bad => .bad) _ _ _ _
        cases e4 : nb s with
        | nx s' => rw [e4] at k; obtain ⟨τ2, k1, k2⟩ := k; rw [k1]; exact sat_whileN hc hb hi n s' τ2 k2
        | ct s' => rw [e4] at k; obtain ⟨τ2, k1, k2⟩ := k; rw [k1]; exact sat_whileN hc hb hi n s' τ2 k2
        | bk s' => rw [e4] at k; obtain ⟨τ2, k1, k2⟩ := k; rw [k1]; exact ⟨τ2, rfl, hi _ _ k2⟩
        | rt r => rw [e4] at k; obtain ⟨d2, τ2, k1, k2⟩ := k; rw [k1]; exact ⟨d2, τ2, rfl, k2⟩
        | ex c => rw [e4] at k; obtain ⟨τ2, k1, k2⟩ := k; rw [k1]; exact ⟨τ2, rfl, k2⟩
        | bad => trivial
    | ex c => rw [e3] at k; obtain ⟨τ2, k1, k2⟩ := k; rw [k1]; exact ⟨τ2, rfl, k2⟩
    | bad => trivial
theorem vs_while {F : Nat} {c : MT} {body r : MS} {GI GC : σ' → List Slot} {nc : σ' → N Bool} {nb : σ' → NS σ' σ' ρ} {s0 : σ'} {k : σ' → NS σ κ ρ} (h0 : Ent G (GI s0)) (hc : ∀ s, VT c (GI s) (nc s) (GC s) X) (hb : ∀ s, VS body (GC s) (nb s) GI GI er X) (hi : ∀ s, Ent (GI s) (GC s)) (hr : ∀ s, VS r (GC s) (k s) G' L er X)
 : VS (sSeq (sWhile (fun _ => F) c body) r) G ((whileN nc nb F s0).s k) G' L er X := fun τ s => by
  exact SatS.seq (r := whileM c body F τ) (G1 := GC) (sat_whileN hc hb hi F s0 τ (h0 _ s)) fun s τ q => hr s τ q
theorem Al.set {e : EP α} : ∀ {xs : List α} {ds : List D} (j : Nat) {a : α} {d : D}, Al e xs ds → e a d → Al e (xs.set j a) (ds.set j d)
  | _, _, _, _, _, .nil, _ => .nil
  | _, _, 0, _, _, .cons _ b, h => .cons h b
  | _, _, j + 1, _, _, .cons a b, h => .cons a (b.set j h)
end
section
variable {α β γ : Type} {G G1 G2 GI : List Slot} {X : Env → Prop}
end
section
variable {α β γ σ κ ρ : Type} {er : EP ρ}
theorem is_any : ∀ k : Nat, Is (List.replicate k Slot.any) (List.replicate k none)
  | 0 => rfl
  | k + 1 => ⟨none, _, rfl, True.intro, is_any k⟩
inductive Ini : List Slot → List D → Prop
  | nil : Ini [] []
  | cons {α : Type} {e : EP α} {x : α} {d : D} {G : List Slot} {ds : List D} : e x d → Ini G ds → Ini (.val e x :: G) (d :: ds)
theorem Ini.is : ∀ {G : List Slot} {ds : List D} (k : Nat), Ini G ds → Is (G ++ List.replicate k Slot.any) (ds.map some ++ List.replicate k none)
  | _, _, k, .nil => is_any k
  | _, _, k, .cons a b => ⟨_, _, rfl, ⟨_, rfl, a⟩, b.is k⟩
theorem Ini.len {G : List Slot} {ds : List D} (h : Ini G ds) : ds.length = G.length := by
  induction h with
  | nil => rfl
  | cons _ _ ih => exact congrArg (· + 1) ih
abbrev XT : Env → Prop := fun _ => True
theorem satC_of {f : List D → CR} {n N : Nat} {b : MS} {G : List Slot} {ds : List D} {v : NS σ κ ρ} {G' : σ → List Slot} {L : κ → List Slot} (hf : f = callF n N b) (hi : Ini G ds) (hn : G.length = n) (h : VS b (G ++ List.replicate (N - n) Slot.any) v G' L (fun a d _ => er a d) XT) : SatC (f ds) v.f er := by
  have k := h _ (hi.is (N - n))
  rw [hf]
  unfold callF
  rw [if_pos (by rw [hi.len]; exact hn)]
  cases v with
  | rt a => obtain ⟨d, τ', e, p⟩ := k; exact ⟨d, by rw [e], p⟩
  | ex c => obtain ⟨τ', e, p⟩ := k; show _ = _; rw [e]
  | _ => exact True.intro
theorem xt {G : List Slot} : ∀ τ, Is G τ → XT τ := fun _ _ => True.intro
def IniL (ea : EL α) (G : α → List Slot) : Prop := ∀ p ds, ea p ds → Ini (G p) ds
theorem inil_one {e : EP α} : IniL (eOne e) fun p => [.val e p] := fun p ds ⟨d, q, h⟩ => by rw [q]; exact .cons h .nil
theorem inil_cons {e : EP α} {es : EL β} {G : β → List Slot} (h : IniL es G) : IniL (eCons e es) fun p => .val e p.1 :: G p.2 := fun p ds ⟨d, r, q, k1, k2⟩ => by rw [q]; exact .cons k1 (h _ _ k2)
theorem Ini.app {G G' : List Slot} {ds es : List D} (h : Ini G ds) (k : Ini G' es) : Ini (G ++ G') (ds ++ es) := by
  induction h with
  | nil => exact k
  | cons a _ ih => exact .cons a ih
end
end Bn
namespace Bn
open PySem PySem.Spec PyProof.Rows L2
def CMulA (i j : Int) : Prop := CMulW i j ∨ CMul i j
instance {i j : Int} : Decidable (CMul i j) := by unfold CMul; infer_instance
instance {i j : Int} : Decidable (CMulA i j) := by unfold CMulA; infer_instance
theorem op_mulA {X : Cx} : OpR X (binaryOp .Mult) (rI CMulA fun i j => .int (i * j)) := opI fun _ _ _ _ _ _ _ hc q => mul_int q (hc.elim (·.ok) (·.ok))
def gMulA : D → D → Option D := gIC CMulA fun i j => .int (i * j)
theorem sMulA {K : PySem.W.Frag} : OpS K (rI CMulA fun i j => .int (i * j)) gMulA := opS_IC fun _ _ _ _ => rfl
@[irreducible] def N.mul (i j : Int) : N Int := if CMulA i j then .ok (i * j) else .bad
@[irreducible] def N.div (i j : Int) : N Int := if CDivW i j then .ok (i / j) else .bad
@[irreducible] def N.mod (i j : Int) : N Int := if 0 < j then .ok (i % j) else .bad
@[irreducible] def N.ix {α : Type} (xs : List α) (i : Int) : N α := N.o (atI xs i)
@[irreducible] def N.six (z : Str) (i : Int) : N Str := if z.length ≤ 1000000 then N.o ((atI z.cps.toList i).map fun c => ⟨#[c]⟩) else .bad
@[irreducible] def N.sadd (i j : Str) : N Str := if i.length + j.length ≤ 1000000 then .ok (i ++ j) else .bad
@[irreducible] def N.slen (z : Str) : N Int := if z.length ≤ 1000000 then .ok (z.length : Nat) else .bad
@[irreducible] def N.gb (o : Option D) : N Bool := match o with
  | some (.bl b) => .ok b
  | _ => .bad
@[irreducible] def N.str (i : Int) : N Str := if i.natAbs.log2 < 1920 then .ok (toString i) else .bad
@[irreducible] def N.cutS (z : Str) (lo hi : Option Int) : N Str := if z.length ≤ 1000000 then .ok (L2.cutS z lo hi) else .bad
@[irreducible] def N.sin (c z : Str) : N Bool := match c.cps.toList with
  | [k] => .ok (decide (k ∈ z.cps.toList))
  | _ => .bad
@[irreducible] def N.join (z : Str) (ys : List Str) : N Str := if (ys.map (·.length)).sum + ys.length * z.length ≤ 1000000 then .ok (Txt.join z ys) else .bad
theorem N.mul_ok {i j : Int} (h : CMulA i j) : N.mul i j = .ok (i * j) := by unfold N.mul; exact if_pos h
theorem N.mul_r {i j : Int} (h : j.natAbs < 2 ^ 64) : N.mul i j = .ok (i * j) := N.mul_ok (.inr (.inr ⟨by omega, by omega⟩))
theorem N.mul_w {i j : Int} (a b : Nat) (h1 : i.natAbs < 2 ^ a) (h2 : j.natAbs < 2 ^ b) (h0 : 0 < a) (h3 : 0 < b) (h : a + b ≤ 1000000) : N.mul i j = .ok (i * j) := N.mul_ok (.inl (L2.wide_mul h1 h2 h0 h3 h))
theorem N.div_ok {i j : Int} (h0 : 0 < j) {b : Nat} (hb : j.natAbs < 2 ^ b) (h1 : 0 < b := by decide) (h9 : b ≤ 9000 := by decide) : N.div i j = .ok (i / j) := by unfold N.div; exact if_pos (L2.wide_div h0 hb h1 h9)
theorem N.mod_ok {i j : Int} (h : 0 < j) : N.mod i j = .ok (i % j) := by unfold N.mod; exact if_pos h
theorem N.ix_ok {α : Type} {xs : List α} {k : Nat} {x : α} (h : xs[k]? = some x) : N.ix xs (k : Int) = .ok x := by
  unfold N.ix
  rw [show atI xs (k : Int) = xs[k]? from atI_of rfl, h]; rfl
theorem N.ix_i {α : Type} {xs : List α} {i : Int} {x : α} (h0 : 0 ≤ i) (h : xs[i.toNat]? = some x) : N.ix xs i = .ok x := by
  have := N.ix_ok h
  rwa [show ((i.toNat : Nat) : Int) = i by omega] at this
section
variable {α β γ : Type} {e : EP α}
theorem o_add : Op gAdd (fun a b => .ok (a + b)) eI eI eI := fun a b d1 d2 c h1 h2 q => by cases h1; cases h2; cases q; exact ⟨_, rfl, rfl⟩
theorem o_sub : Op gSub (fun a b => .ok (a - b)) eI eI eI := fun a b d1 d2 c h1 h2 q => by cases h1; cases h2; cases q; exact ⟨_, rfl, rfl⟩
theorem o_ic {C : Int → Int → Prop} [∀ i j, Decidable (C i j)] {k : Int → Int → Int} : Op (gIC C fun i j => .int (k i j)) (fun a b => if C a b then .ok (k a b) else .bad) eI eI eI := fun a b d1 d2 c h1 h2 q => by
  cases h1; cases h2
  by_cases z : C a b
  · simp only [z, if_true] at q
    cases q
    exact ⟨_, if_pos z, rfl⟩
  · simp only [z, if_false] at q; cases q
theorem o_mul : Op gMulA N.mul eI eI eI := by unfold N.mul; exact o_ic
theorem o_div : Op gDiv N.div eI eI eI := by unfold N.div; exact o_ic
theorem o_mod : Op gMod N.mod eI eI eI := by unfold N.mod; exact o_ic
theorem o_lt : Op gLt (fun a b => .ok (decide (a < b))) eI eI eB := fun a b d1 d2 c h1 h2 q => by cases h1; cases h2; cases q; exact ⟨_, rfl, rfl⟩
theorem o_gt : Op gGt (fun a b => .ok (decide (b < a))) eI eI eB := fun a b d1 d2 c h1 h2 q => by cases h1; cases h2; cases q; exact ⟨_, rfl, rfl⟩
theorem o_neg : Un gNeg (fun a => .ok (-a)) eI eI := fun a d c h q => by cases h; cases q; exact ⟨_, rfl, rfl⟩
theorem o_sadd : Op gAddS N.sadd eS eS eS := fun a b d1 d2 c h1 h2 q => by
  cases h1; cases h2
  unfold N.sadd at q
  by_cases z : a.length + b.length ≤ 1000000
  · rw [if_pos z] at q; cases q; exact ⟨_, if_pos z, rfl⟩
  · rw [if_neg z] at q; cases q
def eK (k : Int) : EP Unit := fun _ d => d = .int k
theorem vz_k {k : Int} {G : List Slot} : VZ (zC (.int k)) G (.ok ()) (eK k) := vz_c rfl
theorem vz_cst {m : MZ} {c : Int} {G : List Slot} (h : ∀ τ, m τ = some (.int c)) : VZ m G (.ok c) eI := ⟨noex_ok, fun τ _ a q => by cases q; exact ⟨_, h τ, rfl⟩⟩
theorem o_eqI : Op gEq (fun a b => .ok (decide (a = b))) eI eI eB := fun a b d1 d2 c h1 h2 q => by
  cases h1; cases h2; cases q
  refine ⟨_, vEq a b, ?_⟩
  show D.bl (a == b) = D.bl (decide (a = b))
  rfl
theorem o_neI : Op gNe (fun a b => .ok (!decide (a = b))) eI eI eB := fun a b d1 d2 c h1 h2 q => by
  cases h1; cases h2; cases q
  exact ⟨_, vNe a b, rfl⟩
def Fn (e : EP α) (f : α → D) : Prop := ∀ x d, e x d → toP d = toP (f x) ∧ hasP d = hasP (f x)
theorem fn_I : Fn eI D.int := fun x d h => by cases h; exact ⟨rfl, rfl⟩
theorem fn_S : Fn eS D.str := fun x d h => by cases h; exact ⟨rfl, rfl⟩
def FnL (e : EL α) (f : α → List D) : Prop := ∀ x ds, e x ds → toPs ds = toPs (f x) ∧ hasPs ds = hasPs (f x)
theorem fnl_one {f : α → D} (h : Fn e f) : FnL (eOne e) fun x => [f x] := fun x ds ⟨d, q, k⟩ => by
  obtain ⟨h1, h2⟩ := h _ _ k
  rw [q]
  constructor
  · show toP _ :: [] = toP _ :: []; rw [h1]
  · show (hasP _ && true) = (hasP _ && true); rw [h2]
theorem fnl_cons {es : EL β} {f : α → D} {g : β → List D} (h : Fn e f) (h' : FnL es g) : FnL (eCons e es) fun x => f x.1 :: g x.2 := fun x ds ⟨d, r, q, k, k'⟩ => by
  obtain ⟨h1, h2⟩ := h _ _ k
  obtain ⟨h3, h4⟩ := h' _ _ k'
  rw [q]
  constructor
  · show toP _ :: toPs _ = toP _ :: toPs _; rw [h1, h3]
  · show (hasP _ && hasPs _) = (hasP _ && hasPs _); rw [h2, h4]
theorem fn_T {es : EL α} {g : α → List D} (h : FnL es g) : Fn (eTu es) fun x => D.tup (g x) := fun x d ⟨ds, q, k⟩ => by
  obtain ⟨h3, h4⟩ := h _ _ k
  rw [q]
  exact ⟨congrArg PyData.tuple h3, h4⟩
theorem gEq_of {d1 d2 a b : D} (h1 : toP d1 = toP a ∧ hasP d1 = hasP a) (h2 : toP d2 = toP b ∧ hasP d2 = hasP b) : gEq d1 d2 = gEq a b ∧ gNe d1 d2 = gNe a b := by
  unfold gEq gNe okP eqP
  rw [h1.1, h1.2, h2.1, h2.2]
  exact ⟨rfl, rfl⟩
theorem N.gb_ok {o : Option D} {b : Bool} (h : N.gb o = .ok b) : o = some (.bl b) := by
  unfold N.gb at h
  split at h
  · cases h; rfl
  · cases h
theorem o_eq {e' : EP β} {f : α → D} {g : β → D} (h : Fn e f) (h' : Fn e' g) : Op gEq (fun a b => N.gb (gEq (f a) (g b))) e e' eB := fun a b d1 d2 c k1 k2 q => by
  refine ⟨.bl c, ?_, rfl⟩
  rw [(gEq_of (h _ _ k1) (h' _ _ k2)).1]
  exact N.gb_ok q
theorem o_ne {e' : EP β} {f : α → D} {g : β → D} (h : Fn e f) (h' : Fn e' g) : Op gNe (fun a b => N.gb (gNe (f a) (g b))) e e' eB := fun a b d1 d2 c k1 k2 q => by
  refine ⟨.bl c, ?_, rfl⟩
  rw [(gEq_of (h _ _ k1) (h' _ _ k2)).2]
  exact N.gb_ok q
theorem atI_al {xs : List α} {ds : List D} (h : Al e xs ds) {i : Int} {x : α} (q : atI xs i = some x) : ∃ d, atI ds i = some d ∧ e x d := by
  unfold atI at q ⊢
  obtain ⟨j, e1, q⟩ := bind_some q
  rw [h.length, e1]
  exact h.get j q
theorem N.o_ok {o : Option α} {x : α} (h : N.o o = .ok x) : o = some x := by
  cases o with
  | none => cases h
  | some y => cases h; rfl
theorem o_ix {m : Bool} : Op gIx N.ix (eLi m e) eI e := fun xs i d1 d2 c ⟨ds, h1, h2⟩ h3 q => by
  cases h3; subst h1
  exact atI_al h2 (N.o_ok (by unfold N.ix at q; exact q))
theorem o_ixC : Op gIx N.ix eCn eI eI := fun xs i d1 d2 c h1 h3 q => by
  cases h3; cases h1
  exact atI_al (al_ints xs) (N.o_ok (by unfold N.ix at q; exact q))
theorem o_six : Op gIx N.six eS eI eS := fun z i d1 d2 c h1 h3 q => by
  cases h3; cases h1
  unfold N.six at q
  by_cases w : z.length ≤ 1000000
  · rw [if_pos w] at q
    have q := N.o_ok q
    obtain ⟨k, q1, q2⟩ := Option.map_eq_some_iff.mp q
    refine ⟨.str c, ?_, rfl⟩
    show (if z.length ≤ 1000000 then (atI z.cps.toList i).map fun c => D.str ⟨#[c]⟩ else none) = _
    rw [if_pos w, q1, ← q2]; rfl
  · rw [if_neg w] at q; cases q
def Pt (es : EL α) (k : Nat) (e : EP β) (p : α → β) : Prop := ∀ x ds, es x ds → ∃ d, ds[k]? = some d ∧ e (p x) d
theorem pt_1 : Pt (eOne e) 0 e fun x => x := fun x ds ⟨d, q, k⟩ => by rw [q]; exact ⟨d, rfl, k⟩
theorem pt_0 {es : EL β} : Pt (eCons e es) 0 e fun x => x.1 := fun x ds ⟨d, r, q, k, _⟩ => by rw [q]; exact ⟨d, rfl, k⟩
theorem pt_s {es : EL β} {n : Nat} {e' : EP γ} {p : β → γ} (h : Pt es n e' p) : Pt (eCons e es) (n + 1) e' fun x => p x.2 := fun x ds ⟨d, r, q, _, k⟩ => by
  obtain ⟨d', h1, h2⟩ := h _ _ k
  rw [q]; exact ⟨d', h1, h2⟩
theorem o_ixT {es : EL α} {k : Nat} {e' : EP β} {p : α → β} (h : Pt es k e' p) : Op gIx (fun a _ => .ok (p a)) (eTu es) (eK k) e' := fun x _ d1 d2 c ⟨ds, h1, h2⟩ h3 q => by
  cases h3; subst h1; cases q
  obtain ⟨d, k1, k2⟩ := h _ _ h2
  refine ⟨d, ?_, k2⟩
  show atI ds (k : Int) = _
  rw [show atI ds (k : Int) = ds[k]? from atI_of rfl]; exact k1
theorem c_len {m : Bool} : Cl gLen (fun xs => .ok (xs.length : Int)) (eOne (eLi m e)) eI := fun x ds c ⟨d, q, es, q2, k⟩ h => by
  subst q; subst q2; cases h
  refine ⟨_, vLenL m es, ?_⟩
  rw [k.length]; rfl
theorem c_lenC : Cl gLen (fun xs => .ok (xs.length : Int)) (eOne eCn) eI := fun x ds c ⟨d, q, q2⟩ h => by
  subst q; cases (show d = _ from q2); cases h
  refine ⟨_, vLenC _, ?_⟩
  rw [List.length_map]; rfl
theorem c_lenT {es : EL α} {n : Nat} (l : Len es n) : Cl gLen (fun _ => .ok (n : Int)) (eOne (eTu es)) eI := fun x ds c ⟨d, q, es, q2, k⟩ h => by
  subst q; subst q2; cases h
  refine ⟨_, vLenT es, ?_⟩
  rw [l _ _ k]; rfl
theorem c_lenS : Cl gLen N.slen (eOne eS) eI := fun x ds c ⟨d, q, q2⟩ h => by
  subst q; cases (show d = _ from q2)
  unfold N.slen at h
  by_cases w : x.length ≤ 1000000
  · rw [if_pos w] at h; cases h
    exact ⟨.int (x.length : Nat), if_pos w, rfl⟩
  · rw [if_neg w] at h; cases h
theorem c_abs : Cl gAbs (fun i => .ok (if i < 0 then -i else i)) (eOne eI) eI := fun x ds c ⟨d, q, q2⟩ h => by
  subst q; cases (show d = _ from q2); cases h; exact ⟨_, rfl, rfl⟩
def eTy (t : String) : EP Unit := fun _ d => d = .ty t
theorem vz_ty {t : String} {G : List Slot} : VZ (zC (.ty t)) G (.ok ()) (eTy t) := vz_c rfl
def Ty (e : EP α) (t : String) : Prop := ∀ x d, e x d → tyOfD d = some t
theorem ty_I : Ty eI "int" := fun x d h => by cases h; rfl
theorem ty_S : Ty eS "str" := fun x d h => by cases h; rfl
theorem ty_T {es : EL α} : Ty (eTu es) "tuple" := fun x d ⟨_, h, _⟩ => by rw [h]; rfl
theorem c_isi {t u : String} {b : Bool} (h : Ty e t) (hm : t ∈ ["bool", "int", "str", "tuple", "list"] ∧ u ∈ ["bool", "int", "str", "tuple", "list"] := by decide) (hb : (decide (t = u) || (decide (t = "bool") && decide (u = "int"))) = b := by decide) : Cl gIsi (fun _ => .ok b) (eCons e (eOne (eTy u))) eB := fun x ds c ⟨d, r, q, q2, d', q3, q4⟩ z => by
  subst q3; subst q; cases (show d' = _ from q4); cases z
  refine ⟨.bl b, ?_, rfl⟩
  show (match tyOfD d with | some t => if t ∈ ["bool", "int", "str", "tuple", "list"] ∧ u ∈ ["bool", "int", "str", "tuple", "list"] then some (D.bl (decide (t = u) || (decide (t = "bool") && decide (u = "int")))) else none | none => none) = _
  rw [h _ _ q2]
  show (if t ∈ ["bool", "int", "str", "tuple", "list"] ∧ u ∈ ["bool", "int", "str", "tuple", "list"] then some (D.bl (decide (t = u) || (decide (t = "bool") && decide (u = "int")))) else none) = _
  rw [if_pos hm, hb]
theorem o_snotin : Op (gInS true) (fun x y => N.not (N.sin x y)) eS eS eB := fun x y d1 d2 c h1 h2 q => by
  cases h1; cases h2
  replace q : N.not (N.sin x y) = .ok c := q
  unfold N.sin N.not at q
  refine ⟨.bl c, ?_, rfl⟩
  unfold gInS
  show (match x.cps.toList with | [k] => some (D.bl (if true = true then !decide (k ∈ y.cps.toList) else decide (k ∈ y.cps.toList))) | _ => none) = _
  generalize x.cps.toList = l at *
  match l, q with
  | [k], q => cases q; rfl
  | [], q => cases q
  | _ :: _ :: _, q => cases q
theorem c_str : Cl gStrI N.str (eOne eI) eS := fun x ds c ⟨d, q, q2⟩ h => by
  subst q; cases (show d = _ from q2)
  unfold N.str at h
  by_cases w : x.natAbs.log2 < 1920
  · rw [if_pos w] at h; cases h
    exact ⟨.str (toString x), if_pos w, rfl⟩
  · rw [if_neg w] at h; cases h
section
variable {G G1 G2 G3 G4 : List Slot} {X : Env → Prop}
theorem vp_none : VP pNone G (.ok none) G X := fun τ s => ⟨none, τ, rfl, rfl, s⟩
theorem vp_some {m : ME} {v : N Int} {w : N (Option Int)} (h : VE m G v eI G1 X) (hw : w = v.bind fun i => .ok (some i) := by first | with_reducible rfl | simp only [N.bind_ok, N.bind_assoc] | rfl) : VP (pSome m) G w G1 X := fun τ s => by
  rw [hw]
  exact (h τ s).bind fun i d τ1 ⟨k1, s1⟩ => by cases (show d = .int i from k1); exact ⟨some i, τ1, rfl, rfl, s1⟩
theorem Al.cut {xs : List α} {ds : List D} (h : Al e xs ds) (lo hi : Option Int) : Al e (cutL xs lo hi) (cutL ds lo hi) := by
  unfold cutL
  rw [h.length]
  exact (h.drop _).take _
theorem ve_slice {f : D → Option Int → Option Int → Option D} {F : α → Option Int → Option Int → N β} {m : ME} {p r : Env → R (Option Int)} {v : N α} {lo hi : N (Option Int)} {w : N β} {e e1 : EP α} {e' : EP β} (h : VE m G v e G1 X) (z : Fz e e1) (hp : VP p G1 lo G2 X) (hr : VP r G2 hi G3 X) (hf : ∀ a d l u b, e1 a d → F a l u = .ok b → ∃ d', f d l u = some d' ∧ e' b d') (nx : ∀ a l u c, F a l u ≠ .ex c)
    (hw : w = v.bind fun a => lo.bind fun l => hi.bind fun u => F a l u := by first | with_reducible rfl | simp only [N.bind_ok, N.bind_assoc] | rfl) : VE (eSlice f m p r) G w e' G3 X := fun τ s => by
  rw [hw]
  exact (h τ s).bind fun a d τ1 ⟨k1, s1⟩ => (hp τ1 s1).bind fun l l' τ2 ⟨k2, s2⟩ => (hr τ2 s2).bind fun u u' τ3 ⟨k3, s3⟩ => by
    subst k2; subst k3
    cases ef : F a l u with
    | ok b =>
      obtain ⟨d', q1, q2⟩ := hf a (freeze d) l u b (z _ _ k1) ef
      rw [q1]
      exact ⟨d', τ3, rfl, q2, s3⟩
    | ex c => exact absurd ef (nx a l u c)
    | bad => exact True.intro
theorem sl_S : ∀ (a : Str) d l u b, eS a d → N.cutS a l u = N.ok b → ∃ d', cutSd d l u = some d' ∧ eS b d' := fun a d l u b h1 q => by
  cases h1
  unfold N.cutS at q
  by_cases w : a.length ≤ 1000000
  · rw [if_pos w] at q; cases q
    exact ⟨.str (L2.cutS a l u), if_pos w, rfl⟩
  · rw [if_neg w] at q; cases q
theorem nx_cutS : ∀ (a : Str) l u c, N.cutS a l u ≠ .ex c := fun a l u c h => by
  unfold N.cutS at h; split at h <;> cases h
end
theorem nx_p2 {f : α → β → γ} : Nx2 (fun a b => .ok (f a b)) := fun _ _ _ h => by cases h
theorem nx_p1 {f : α → γ} : Nx1 (fun a => .ok (f a)) := fun _ _ h => by cases h
theorem nx_o {o : Option α} {c : Str} : N.o o ≠ .ex c := fun h => by cases o <;> cases h
theorem nx_gb {o : Option D} {c : Str} : N.gb o ≠ .ex c := fun h => by unfold N.gb at h; split at h <;> cases h
theorem nx_mul : Nx2 N.mul := fun _ _ _ h => by unfold N.mul at h; split at h <;> cases h
theorem nx_div : Nx2 N.div := fun _ _ _ h => by unfold N.div at h; split at h <;> cases h
theorem nx_mod : Nx2 N.mod := fun _ _ _ h => by unfold N.mod at h; split at h <;> cases h
theorem nx_ix : Nx2 (N.ix (α := α)) := fun _ _ _ h => by unfold N.ix at h; exact nx_o h
theorem nx_six : Nx2 N.six := fun _ _ _ h => by
  unfold N.six at h
  split at h
  · exact nx_o h
  · cases h
theorem nx_sadd : Nx2 N.sadd := fun _ _ _ h => by unfold N.sadd at h; split at h <;> cases h
theorem nx_slen : Nx1 N.slen := fun _ _ h => by unfold N.slen at h; split at h <;> cases h
theorem nx_str : Nx1 N.str := fun _ _ h => by unfold N.str at h; split at h <;> cases h
theorem nx_sin : Nx2 N.sin := fun _ _ _ h => by unfold N.sin at h; split at h <;> cases h
theorem nx_snotin : Nx2 (fun x y => N.not (N.sin x y)) := fun a b _ h => by
  replace h : N.not (N.sin a b) = _ := h
  unfold N.not at h
  cases e : N.sin a b with
  | ok b => rw [e] at h; cases h
  | ex c => exact nx_sin _ _ _ e
  | bad => rw [e] at h; cases h
theorem nx_gb2 {f : α → β → Option D} : Nx2 (fun a b => N.gb (f a b)) := fun _ _ _ h => nx_gb h
section
variable {σ κ ρ : Type}
theorem forN_cons {b : α → σ → NS σ σ ρ} {x : α} {xs : List α} {s : σ} : (forN b (x :: xs) s : NS σ κ ρ) = (match b x s with
    | .nx s' => forN b xs s' | .ct s' => forN b xs s' | .bk s' => .nx s' | .rt r => .rt r | .ex c => .ex c | .bad => .bad) := rfl
theorem forN_rt {b : α → σ → NS σ σ ρ} {x : α} {xs : List α} {s : σ} {r : ρ} (h : b x s = .rt r) : (forN b (x :: xs) s : NS σ κ ρ) = .rt r := by rw [forN_cons, h]
theorem whileN_end {c : σ → N Bool} {b : σ → NS σ σ ρ} {n : Nat} {s : σ} (h : c s = .ok false) : (whileN c b (n + 1) s : NS σ κ ρ) = .nx s := by
  unfold whileN; rw [h]
theorem whileN_step {c : σ → N Bool} {b : σ → NS σ σ ρ} {n : Nat} {s s' : σ} (h : c s = .ok true) (k : b s = .nx s') : (whileN c b (n + 1) s : NS σ κ ρ) = whileN c b n s' := by
  conv => lhs; unfold whileN
  simp only [h, k]
def N.gv (v : N α) (Q : α → Prop) : Prop := ∃ y, v = .ok y ∧ Q y
def NS.gv (n : NS σ κ ρ) (Qn : σ → Prop) (Qr : ρ → Prop) : Prop := (∃ s, n = .nx s ∧ Qn s) ∨ ∃ r, n = .rt r ∧ Qr r
end
end
end Bn
namespace Bn
open PySem PySem.Spec PyProof.Rows L2
section
variable {α β γ S S' : Type} {G G1 G2 : List Slot} {X : Env → Prop}
section
variable {σ κ ρ : Type} {G' : σ → List Slot} {L : κ → List Slot} {er : ρ → D → Env → Prop}
end
end
end Bn
namespace PySem
section
variable {prog : Program} {w : World} {A : Around} {E : Value → Shared → Prop} {s : Shared} {l : Addr} {xs : Array (Int × Tok)}
end
end PySem
namespace Bn
open PySem PySem.Spec PyProof.Rows L2
section
variable {X : Cx} {B : Bx} {W : WX}
end
@[irreducible] def N.split (z y : Str) : N (List Str) := if y.length ≠ 0 ∧ z.length ≤ 1000000 then .ok (Txt.split z y) else .bad
@[irreducible] def N.int (z : Str) : N Int := if z.length ≤ 640 then N.o (intText? z) else .bad
section
variable {α β γ : Type} {G G1 G2 : List Slot} {X : Env → Prop}
theorem al_strs (ns : List Str) : Al eS ns (ns.map D.str) := by
  induction ns with
  | nil => exact .nil
  | cons n ns ih => exact .cons rfl ih
theorem ve_split {a b : ME} {v w : N Str} {u : N (List Str)} (h : VE a G v eS G1 X) (k : VE b G1 w eS G2 X) (hu : u = v.bind fun z => w.bind fun y => N.split z y := by first | with_reducible rfl | simp only [N.bind_ok, N.bind_assoc] | rfl) : VE (eSplit a b) G u (eLi true eS) G2 X := fun τ s => by
  rw [hu]
  exact (h τ s).bind fun z d τ1 ⟨k1, s1⟩ => by
    cases (show d = .str z from k1)
    exact (k τ1 s1).bind fun y d τ2 ⟨k2, s2⟩ => by
      cases (show d = .str y from k2)
      show Sat (splitR z y τ2) (N.split z y) _ _
      unfold splitR N.split
      by_cases c : y.length ≠ 0 ∧ z.length ≤ 1000000
      · rw [if_pos c, if_pos c]
        exact ⟨_, τ2, rfl, ⟨_, rfl, al_strs _⟩, s2⟩
      · rw [if_neg c, if_neg c]; exact True.intro
theorem c_intS : Cl gIntS N.int (eOne eS) eI := fun x ds c ⟨d, q, q2⟩ h => by
  subst q; cases (show d = _ from q2)
  unfold N.int at h
  by_cases w : x.length ≤ 640
  · rw [if_pos w] at h
    have h := N.o_ok h
    exact ⟨.int c, by show (if x.length ≤ 640 then (intText? x).map D.int else none) = _; rw [if_pos w, h]; rfl, rfl⟩
  · rw [if_neg w] at h; cases h
theorem nx_int : Nx1 N.int := fun _ _ h => by
  unfold N.int at h
  split at h
  · exact nx_o h
  · cases h
theorem ve_is {o : Option Bool} : VE (eIs o) G (N.o o) eB G X := fun τ s => by
  cases o with
  | none => exact True.intro
  | some b => exact ⟨.bl b, τ, rfl, rfl, s⟩
def NS.tr {σ κ ρ : Type} (b : NS σ κ ρ) (sub : Str → Option Bool) (su : Str → NS σ κ ρ) : NS σ κ ρ := match b with
  | .ex c => (match sub c with
    | some true => (match su c with
      | .ex _ => .bad
      | r => r)
    | some false => .ex c
    | none => .bad)
  | r => r
section
variable {σ σ' κ ρ : Type} {G' : σ → List Slot} {L : κ → List Slot} {er : ρ → D → Env → Prop}
theorem vs_tryAs {i : Nat} {sub : Str → Option Bool} {b r : MS} {su : Str → MS} {GX : List Slot} {GS GJ : σ' → List Slot} {nb : NS σ' κ ρ} {ns : Str → NS σ' κ ρ} {k : σ' → NS σ κ ρ} (hi : i < GX.length) (hb : VS b G nb GJ L er (Is GX)) (hs : ∀ c, VS (su c) (put GX i .any) (ns c) GS L er X) (hj : ∀ s, Ent (put (GS s) i .any) (GJ s)) (hl : ∀ l, Ent (put (L l) i .any) (L l)) (hx : ∀ τ, Is GX τ → X τ) (hr : ∀ s, VS r (GJ s) (k s) G' L er X) : VS (sSeq (sTryAs i sub b su) r) G ((NS.tr nb sub ns).s k) G' L er X := fun τ s => by
  refine SatS.seq (r := sTryAs i sub b su τ) (G1 := GJ) ?_ fun s τ q => hr s τ q
  have q := hb τ s
  unfold sTryAs NS.tr
  cases nb with
  | nx s => obtain ⟨τ', e, p⟩ := q; rw [e]; exact ⟨τ', rfl, p⟩
  | bk s => obtain ⟨τ', e, p⟩ := q; rw [e]; exact ⟨τ', rfl, p⟩
  | ct s => obtain ⟨τ', e, p⟩ := q; rw [e]; exact ⟨τ', rfl, p⟩
  | rt s => obtain ⟨d, τ', e, p⟩ := q; rw [e]; exact ⟨d, τ', rfl, p⟩
  | bad => exact True.intro
  | ex c =>
    obtain ⟨τ', e, p⟩ := q
    rw [e]
    show SatS (tryAs i (sub c) c τ' su) (match sub c with | some true => (match ns c with | .ex _ => .bad | r => r) | some false => .ex c | none => .bad) _ _ _ _
    unfold tryAs
    cases es : sub c with
    | none => exact True.intro
    | some t =>
      cases t with
      | false => exact ⟨τ', rfl, hx _ p⟩
      | true =>
        show SatS (if i < τ'.length then endAs i (su c (τ'.set i none)) else .bad) _ _ _ _ _
        rw [if_pos (by rw [p.len]; exact hi)]
        have q2 := hs c (τ'.set i none) (Is.put (q := Slot.any) (o := none) True.intro i p)
        show SatS _ (match ns c with | .ex _ => .bad | r => r) _ _ _ _
        cases en : ns c with
        | nx s =>
          rw [en] at q2; obtain ⟨τ2, e2, p2⟩ := q2; rw [e2]
          exact ⟨τ2.set i none, rfl, hj s _ (Is.put (q := Slot.any) (o := none) True.intro i p2)⟩
        | bk s =>
          rw [en] at q2; obtain ⟨τ2, e2, p2⟩ := q2; rw [e2]
          exact ⟨τ2.set i none, rfl, hl s _ (Is.put (q := Slot.any) (o := none) True.intro i p2)⟩
        | ct s =>
          rw [en] at q2; obtain ⟨τ2, e2, p2⟩ := q2; rw [e2]
          exact ⟨τ2.set i none, rfl, hl s _ (Is.put (q := Slot.any) (o := none) True.intro i p2)⟩
        | rt s => rw [en] at q2; obtain ⟨d, τ2, e2, p2⟩ := q2; rw [e2]; exact ⟨d, τ2, rfl, p2⟩
        | ex c => exact True.intro
        | bad => exact True.intro
end
theorem VF.ok {f : List D → CR} {n : α → N γ} {ea : EL α} {er : EP γ} (h : VF f n ea er) {a : α} {ds : List D} {b : γ} (k : ea a ds) (q : n a = .ok b) : ∃ d, f ds = .ok d ∧ er b d := by
  have := h a ds k
  rw [q] at this
  exact this
end
section
variable {X : Cx} {B : Bx} {W : WX}
end
section
variable {α β γ S σ κ ρ : Type} {G G1 : List Slot} {X : Env → Prop} {G' : σ → List Slot} {L : κ → List Slot} {er : ρ → D → Env → Prop}
end
section
variable {α : Type} {G G1 : List Slot} {X : Env → Prop}
end
end Bn
namespace Bn
open PySem PySem.Spec PyProof.Rows L2 PySem.W
section
variable {X : Cx}
end
section
variable {X : Cx} {B : Bx} {W : WX}
end
section
variable {X : Cx} {B : Bx} {W : WX}
end
section
variable {α : Type} {G G1 : List Slot} {X : Env → Prop}
end
section
variable {α β : Type} {G GI : List Slot} {X : Env → Prop}
end
end Bn
namespace Bn
open PySem PySem.Spec PyProof.Rows L2
def keyD : D → Option Key
  | .int i => some (.inl i)
  | .str s => some (.inr s)
  | _ => none
section
variable {K : PySem.W.Frag} {ca : Str → Addr} {F H : Hp}
end
section
variable {X : Cx} {B : Bx} {W : WX}
end
section
variable {κ α β ρ σ κ' : Type} [DecidableEq κ] {G G1 : List Slot} {X : Env → Prop}
structure KeyE (ek : EP κ) (kf : κ → Key) : Prop where
  k : ∀ x d, ek x d → keyD d = some (kf x)
  i : ∀ x y, kf x = kf y → x = y
variable {G' : σ → List Slot} {L : κ' → List Slot} {er : ρ → D → Env → Prop}
end
end Bn
namespace Bn
open PySem PySem.Spec PyProof.Rows L2
universe u
inductive CR3 where
  | ok (d : D) (outs : Env)
  | ex (c : Str) (outs : Env)
  | bad
def pick {α : Type u} : List Bool → List α → List α
  | true :: m, x :: xs => x :: pick m xs
  | false :: m, _ :: xs => pick m xs
  | _, _ => []
structure Fra (F F' H H' : Hp) (f g : Ct) : Prop where
  ff : Same F F'
  fh : Same F' H'
  hh : ∀ a o, f a = 0 → H a = some o → H' a = some o
  nd : ∀ a, g a ≤ 1
  dF : ∀ a, 0 < g a → F' a = none ∧ (H a = none ∨ 0 < f a)
  fr : ∀ a, F' a ≠ none → F a ≠ none ∨ H a = none ∨ 0 < f a
def spG (K : PySem.W.Frag) (ca : Str → Addr) (mask : List Bool) (g : List D → CR3) : Sp := fun vs H Q E => ∃ F f as, RepOs K ca F H as vs f ∧ Same F H ∧ (∀ a, f a ≤ 1) ∧ (∀ a, 0 < f a → F a = none) ∧
  match g as with
  | .ok d outs => ∀ v F' H' g1 g2, Fra F F' H H' f (fun b => g1 b + g2 b) → RepO K ca F' H' d v g1 → Sl K ca F' H' outs ((pick mask vs).map some) g2 → Q v H'
  | .ex c outs => ∀ F' H' g2, Fra F F' H H' f g2 → Sl K ca F' H' outs ((pick mask vs).map some) g2 → E (.ref (ca c)) none H'
  | .bad => False
structure FoG (P : Program) (w : World) (K : PySem.W.Frag) (mg : Str → Option Value) (base : Heap) (ca : Str → Addr) (k : Nat) (x : Str) (mask : List Bool) (g : List D → CR3) : Prop where
  ex : ∃ f fd ps, mg x = some (.ref f) ∧ PySem.W.keepIn K (.ref f) = true ∧ Binds K fd ps [] ∧ FnOk P w K mg base (L2.CX P w) k f fd ps (spG K ca mask g)
section
variable {K : PySem.W.Frag} {ca : Str → Addr} {F H : Hp}
end
section
variable {P : Program} {w : World} {K : PySem.W.Frag} {mg : Str → Option Value} {base : Heap} {ca : Str → Addr}
end
section
variable {K : PySem.W.Frag} {ca : Str → Addr} {F H : Hp}
end
section
variable {K : PySem.W.Frag} {B : Bx} {W : WX}
end
section
variable {X : Cx} {B : Bx} {W : WX}
end
section
variable {X : Cx} {B : Bx} {W : WX}
end
section
variable {X : Cx} {B : Bx} {W : WX}
end
end Bn
namespace Bn
open PySem PySem.Spec PyProof.Rows L2
section
variable {α β γ δ ρ σ κ : Type}
variable {G G1 G2 : List Slot} {X : Env → Prop}
end
section
variable {α β γ : Type} {G G1 : List Slot} {X : Env → Prop}
end
section
variable {α : Type} {G G2 G3 : List Slot} {X : Env → Prop}
end
theorem xg {G GX : List Slot} (h : Ent G GX) : ∀ τ, Is G τ → Is GX τ := h
section
variable {S ρ σ σ' κ : Type} {G : List Slot} {GS : S → List Slot} {X : Env → Prop} {G' : σ → List Slot} {L : κ → List Slot} {er : ρ → D → Env → Prop}
end
end Bn
namespace Bn
open PySem PySem.Spec PyProof.Rows L2
section
variable {α β γ ρ σ σ' κ : Type} {G G1 : List Slot} {G' : σ → List Slot} {L : κ → List Slot} {er : ρ → D → Env → Prop} {X : Env → Prop}
theorem Al.at' {e : EP α} {xs : List α} {ds : List D} (h : Al e xs ds) : ∀ {n : Nat} {x : α}, xs[n]? = some x → ∃ d, ds[n]? = some d ∧ e x d := by
  induction h with
  | nil => intro n x h; simp at h
  | cons a b ih =>
    intro n x h
    cases n with
    | zero => cases h; exact ⟨_, rfl, a⟩
    | succ n => exact ih h
end
end Bn
namespace Bn
section
open PySem PySem.Spec PyProof.Rows L2
end
open PySem PySem.Spec PyProof.Rows L2
section
variable {α β γ ρ σ σ' κ : Type} {G G1 : List Slot} {G' : σ → List Slot} {L : κ → List Slot} {er : ρ → D → Env → Prop} {X : Env → Prop}
end
end Bn
namespace Bn
open PySem PySem.Spec PyProof.Rows L2
section
variable {α β γ ρ σ σ' κ : Type} {G G1 : List Slot} {G' : σ → List Slot} {L : κ → List Slot} {er : ρ → D → Env → Prop} {X : Env → Prop}
end
end Bn
namespace Bn
open PySem PySem.Spec PyProof.Rows L2
section
variable {X : Cx} {B : Bx} {W : WX}
end
section
variable {X : Cx} {B : Bx} {W : WX}
end
section
variable {X : Cx} {B : Bx} {W : WX}
end
section
variable {α β γ ρ σ σ' κ : Type} {G G1 : List Slot} {G' : σ → List Slot} {L : κ → List Slot} {er : ρ → D → Env → Prop} {X : Env → Prop}
end
end Bn
namespace Bn
open PySem PySem.Spec PyProof.Rows L2
section
variable {X : Cx} {B : Bx} {W : WX}
end
section
variable {X : Cx} {B : Bx} {W : WX}
end
section
variable {G : List Slot} {X : Env → Prop}
section
variable {α ρ σ κ : Type} {G' : σ → List Slot} {L : κ → List Slot} {er : ρ → D → Env → Prop}
end
end
section
variable {S : Type} {G G1 : List Slot} {GS : S → List Slot} {X : Env → Prop}
end
end Bn
namespace Bn
open PySem PySem.Spec PyProof.Rows L2
section
variable {K : PySem.W.Frag} {B : Bx} {W : WX}
end
section
variable {X : Cx} {B : Bx} {W : WX}
theorem PE.two {e : Expr} {t t1 t2 : TE} (h1 : PE X e t1) (h2 : PE X e t2) (k : ∀ σ H Q, t σ H Q → t1 σ H Q ∨ t2 σ H Q) : PE X e t := ⟨fun p s σ H Q I q => (k _ _ _ q).elim (h1.run p s σ H Q I) (h2.run p s σ H Q I)⟩
end
section
variable {σ κ ρ : Type} {G : List Slot} {X : Env → Prop}
end
section
variable {α β γ : Type} {G G1 : List Slot} {X : Env → Prop}
end
section
variable {α : Type} {G G1 : List Slot} {X : Env → Prop}
end
end Bn
namespace Bn
open PySem PySem.Spec PyProof.Rows L2
structure Src where
  It : Heap → Addr → Addr → Nat → Prop
  Sq : Heap → Addr → Array Value → Prop
  itUp : ∀ {h h' : Heap} {i l : Addr} {k : Nat}, It h i l k → (∀ o, h.get? i = some o → h'.get? i = some o) → It h' i l k
  sqUp : ∀ {h h' : Heap} {l : Addr} {xs : Array Value}, Sq h l xs → (∀ o, h.get? l = some o → h'.get? l = some o) → Sq h' l xs
  itOb : ∀ {h : Heap} {i l : Addr} {k : Nat}, It h i l k → ∃ o, h.get? i = some o ∧ ∀ v, o.data ≠ .cell v
  nx : ∀ {prog : Program} {w : World} {A : Around} {E Q : Value → Shared → Prop} {s : Shared} {it l : Addr} {i : Nat} {xs : Array Value} {x : Value}, It s.heap it l i → Sq s.heap l xs → xs[i]? = some x →
    (∀ h', It h' it l (i + 1) → Heap.SameBut it s.heap h' → Q x { s with heap := h' }) → wpAny (model prog w) A (Builtin.SmallTypes.nextOf (.ref it)) Q E s
  no : ∀ {prog : Program} {w : World} {A : Around} {E Q : Value → Shared → Prop} {s : Shared} {it l : Addr} {i : Nat} {xs : Array Value}, A.handled = none → It s.heap it l i → Sq s.heap l xs → xs[i]? = none →
    (∀ h' e, Heap.ExtBut it s.heap h' → (∃ o, h'.get? e = some o ∧ o.cls = .type "StopIteration") → E (.ref e) { s with heap := h' }) → wpAny (model prog w) A (Builtin.SmallTypes.nextOf (.ref it)) Q E s
section
variable {prog : Program} {w : World} {A : Around} {E : Value → Shared → Prop} {s : Shared} {S1 S2 : Src}
end
section
variable {prog : Program} {w : World} {A : Around} {E : Value → Shared → Prop} {s : Shared}
end
section
variable {X : Cx} {B : Bx} {W : WX}
end
section
variable {α β : Type} {G G1 : List Slot} {X : Env → Prop}
end
end Bn
namespace Bn
open PySem PySem.Spec PyProof.Rows L2
structure MFoG (P : Program) (w : World) (K : PySem.W.Frag) (mg : Str → Option Value) (base : Heap) (ca : Str → Addr) (k : Nat) (c m : Str) (mask : List Bool) (g : List D → CR3) : Prop where
  ex : ∃ f fd ps, Meth K (ca c) m f ∧ Binds K fd ps [] ∧ FnOk P w K mg base (L2.CX P w) k f fd ps (spG K ca mask g)
  cl : Cls K (ca c)
section
variable {X : Cx} {B : Bx} {W : WX}
end
end Bn
namespace Bn
open PySem PySem.Spec PyProof.Rows L2
def kLook (z : Str) : List (Str × D) → Option D
  | [] => none
  | p :: r => if p.1 = z then some p.2 else kLook z r
structure Kd (K : PySem.W.Frag) (w : World) (mg : Str → Option Value) (x : Str) (kvs : List (Str × D)) : Prop where
  ex : ∃ a es n, mg x = some (.ref a) ∧ L2.KDict K w a es n ∧ ∀ z, (kLook z kvs = none ∧ PySem.W.nsIn K a z = some none) ∨ ∃ d u v, kLook z kvs = some d ∧ PySem.W.nsIn K a z = some (some u) ∧ RelV v u ∧ ∀ ca F, Rep K ca F d v
section
variable {X : Cx} {B : Bx} {W : WX} {e : Expr} {m : ME} {N : Str} {p pos : Pos} {kvs : List (Str × D)}
end
section
variable {σ κ ρ : Type}
variable {G G1 : List Slot} {X : Env → Prop}
end
section
variable {X : Cx} {B : Bx} {W : WX}
end
section
variable {α : Type} {G G1 G2 : List Slot} {X : Env → Prop}
end
end Bn
namespace Bn
open PySem PySem.Spec PyProof.Rows L2
section
variable {X : Cx} {B : Bx} {W : WX}
end
section
variable {P : Program} {w : World} {K : PySem.W.Frag} {mg : Str → Option Value} {base : Heap} {ca : Str → Addr}
theorem FoG.at {x : Str} {g : List D → CR3} {k j : Nat} {mask : List Bool} (F : FoG P w K mg base ca k x mask g) (h : k = j) : FoG P w K mg base ca j x mask g := h ▸ F
end
end Bn
namespace Bn
open PySem PySem.Spec PyProof.Rows L2
section
variable {α β γ ρ σ σ' κ κ' S : Type} {G G1 : List Slot} {G' : σ → List Slot} {L : κ → List Slot} {er : ρ → D → Env → Prop} {X : Env → Prop} {c fn : Str} {ns : List Str} {k : Nat} {es : EL α}
end
section
variable {S : Type} {G : List Slot} {GS G1 G2 : S → List Slot} {X : Env → Prop}
end
section
variable {S α β γ ρ : Type} {G : List Slot} {X : Env → Prop}
end
end Bn
namespace Bn
open PySem PySem.Spec PyProof.Rows L2
structure FnW (P : Program) (w : World) (K : PySem.W.Frag) (mg : Str → Option Value) (base : Heap) (k : Nat) (f : Addr) (fd : FuncData) (ps : List Str) (p : Addr × Obj) (sp : Sp) : Prop where
  len : ∀ vs H Q E, sp vs H Q E → vs.length = ps.length
  run : ∀ (A : Around) (outer : List PySem.Env) (s : Shared) (H : Hp) (args : Args) (us : List Value) (vs : List V) (Q : VK) (E : XK), L2H.RoomH k A → L2H.PinOk outer H s p → Env0 P w K mg base A outer s H → BindsTo s fd args (ps.zip us) → Vals vs us → sp vs H Q E →
    codeAny (model P w) A (.call (.ref f) args) (L2.CR (L2.CX P w) outer P w H s Q E) s
theorem fn_ofW {P : Program} {w : World} {K : PySem.W.Frag} {mg : Str → Option Value} {base : Heap} {k : Nat} {f : Addr} {name qual : Str} {params : Arguments} {body : List Stmt} {scope : Scope} {dV kV doc pm cdv ct oc : Value} {an od : Option Addr}
    {osl : Array (Option Value)} {N ps : List Str} {sp : Sp} {p : Addr × Obj} (lk : K.lookup f = some ⟨oc, od, .func (PySem.W.fnOf name qual params body scope dV kV doc pm an cdv ct), osl⟩) (hcd : PySem.W.codeIn K cdv qual = true) (S : FnScope N ps scope)
    (len : ∀ vs H Q E, sp vs H Q E → vs.length = ps.length)
    (hbody : ∀ (A : Around) (outer : List PySem.Env) (s : Shared) (H : Hp) (vs : List V) (Q : VK) (E : XK), L2H.RoomH k (A.deeper (envOfC qual scope s.heap.objs.size f cdv)) → sp vs H Q E →
      ∃ t, PSs (L2H.cxH (L2.CX P w) P w K mg base N qual scope f cdv A outer s H E p) body t ∧ t { nx := fun _ H' => Q .non H', rt := Q } (L2.start N vs) H) :
    FnW P w K mg base (k + 1) f (PySem.W.fnOf name qual params body scope dV kV doc pm an cdv ct) ps p sp := by
  refine ⟨len, fun A outer s H args us vs Q E hr hpin e0 hb r hsp => ?_⟩
  have hl := len _ _ _ _ hsp
  have KX : K.In s.heap := e0.mod.kin.keeps fun b o e => (e0.bs b o e).1
  have lim : s.heap.NoLimit := e0.mod.nolimit.keeps fun b o e => (e0.bs b o e).1
  have hkind : ∀ y ∈ ps.zip us, scope.names.lookup y.1 = some .local ∨ (scope.names.lookup y.1 = some .cell ∧ ((cellsFrom (s.heap.objs.size + 1) scope.names []).lookup y.1).isSome = true) := fun ⟨n, v⟩ hy => by
    rcases S.par n (List.of_mem_zip hy).1 with q | q
    · exact .inl q
    · exact .inr ⟨q, PySem.W.cellsFrom_some _ _ _ (.inl q)⟩
  refine codeAny_call_function hr.depth (KX _ _ lk) rfl S.co S.gen rfl (PySem.W.codeRec_of KX hcd) (hb _ _ _ _ ?_)
  refine wpAny_newFunctionEnv_cells S.kind hkind fun env he s1 x => ?_
  subst he
  refine ⟨lim.keeps x.toInCall.keep, codeAny_func ?_⟩
  obtain ⟨t, ht, hq⟩ := hbody A outer s H vs Q E (hr.deeper _) hsp
  have I : Inv (L2H.cxH (L2.CX P w) P w K mg base N qual scope f cdv A outer s H E p) [] (L2.start N vs) H s1 := L2H.inv_startH S hpin e0 hl r x
  refine wpAny_mono (ht.run [] s1 (L2.start N vs) H _ I hq) (fun fl s' hs => ?_) fun e s' hs => hs
  have fin : ∀ {σ' : L2.St} {H' : Hp} {v : V} {u : Value}, Inv (L2H.cxH (L2.CX P w) P w K mg base N qual scope f cdv A outer s H E p) [] σ' H' s' → RelV v u → Q v H' → CE outer P w H s Q u s' :=
    fun {σ' H' v u} J rv q => ⟨v, H', J.os, J.bare, J.base, J.hok, rv, q⟩
  cases fl with
  | ret u =>
    obtain ⟨v, σ', H', J, rv, q⟩ := hs
    exact fin J rv q
  | next =>
    obtain ⟨σ', H', J, q⟩ := hs
    exact fin (v := V.non) (u := Value.none) J rfl q
  | brk =>
    obtain ⟨_, _, _, q⟩ := hs
    exact False.elim q
  | cont =>
    obtain ⟨_, _, _, q⟩ := hs
    exact False.elim q
section
variable {X : Cx} {k : Nat} {f C : Addr} {fd : FuncData} {ps : List Str} {sp : Sp} {x m : Str} {q pos apos : Pos} {e o : Expr} {es : List Expr} {ta : TE} {t : TA} {p : Addr × Obj}
abbrev noE : L2.St → XK := fun _ _ _ _ => False
theorem pass_no (σ : L2.St) : PassesAt (L2.CX X.prog X.w) X σ (noE σ) := fun _ _ _ _ _ _ ⟨_, _, _, _, _, _, _, _, _, _, _, _, h⟩ => False.elim h
theorem pe_callW (F : FnW X.prog X.w X.K X.mg X.base k f fd ps p sp) (hp : p ∈ X.pn) (hr : L2H.RoomH k X.A) (hg : Gl X x) (hm : X.mg x = some (.ref f)) (hk : PySem.W.keepIn X.K (.ref f) = true) (hb : Binds X.K fd ps [])
    (ha : PA X (e :: es) t) (hdb : (x == ("__debug__" : Str)) = false := by decide) (he : starEach (e :: es) X.env = (false, eval e X.env) :: starEach es X.env := by rfl) (hpl : (backTo pos (starEach es X.env)).any (·.1) = false := by rfl) :
    PE X (.Call (.Name x q) (e :: es) [] pos) (tCallS sp noE t) := by
  refine ⟨fun pins s σ H Q I h => ?_⟩
  refine wpAny_Call_Name_kw (ld_glob I hg hm ?_ hdb)
  refine PySem.W.callWith_K (h₀ := X.base) I.ok.mod.kin hk (thn (ha.run pos pins s σ H _ I h) fun us s1 ⟨vs, H1, I1, r, q⟩ => ⟨I1.kIn, ?_⟩) he hpl
  have hl : us.length = ps.length := by rw [← r.length]; exact F.len _ _ _ _ q
  have b := hb s1 us I1.kIn (by rw [List.append_nil]; exact hl)
  rw [List.append_nil] at b
  have P1 := I1.pin p (List.mem_append_left _ hp)
  have hpin : L2H.PinOk X.stack H1 s1 p := ⟨P1.1, P1.2.1, fun hm => (List.mem_cons.mp (I1.stkSub p.1 hm)).elim P1.2.2.1 P1.2.2.2.1, P1.2.2.2.2⟩
  refine wpAny_call (codeAny_mono (F.run X.A X.stack s1 H1 ⟨us, []⟩ us vs Q (noE σ) hr hpin I1.env0 b r q) fun r s' hq => ?_)
  cases r with
  | error e => exact pass_no σ pins H1 s1 e s' I1 hq
  | ok fl =>
    cases fl with
    | ret u => exact I1.after hq
    | next => exact False.elim hq
    | brk => exact False.elim hq
    | cont => exact False.elim hq
theorem call_isP {a D : Addr} {oe : Obj} (hp : (a, oe) ∈ X.pn) (C : ExcC X.K D) (hz : Zc (.ref D) none oe) (hf : ∃ vs, oe.data = .fields vs) : CallR X (.builtin "isinstance") (rIsE X.K D a) := by
  intro pins s σ H xs us Q I r h
  obtain ⟨c, cv, b, rfl, hcv, e, q⟩ := h
  cases r with
  | cons rx rr =>
    cases rr with
    | cons rt rr =>
      cases rr
      cases rx
      have ec := hcv _ rt
      subst ec
      obtain ⟨hget, _⟩ := I.pin (a, oe) (List.mem_append.mpr (.inl hp))
      obtain ⟨vs, hv⟩ := hf
      have J : PySem.W.InstAt s.heap a oe D none := by
        obtain ⟨oc, od, oda, osl⟩ := oe
        obtain ⟨h1, h2⟩ := hz
        dsimp only at h1 h2 hv
        subst h1 h2 hv
        exact ⟨hget, rfl, rfl, trivial⟩
      exact PySem.W.kia_one (PySem.W.handS_kitx_exc C.hg C.hk C.hs C.hd C.ha C.hn C.ht C.hm) I.kIn J e (fun z => nomatch z) fun tk => ⟨.bl b, H, I.kept (t' := tk) fun _ _ z => z, rfl, q⟩
end
section
variable {X : Cx} {B : Bx} {W : WX}
theorem e_isP {i : Nat} {a : Addr} {oe : Obj} {y : Str} {n A : Str} {vA : V} {cvA : Value} {o : Option Bool} {p p1 p2 pos : Pos} (hp : (a, oe) ∈ X.pn) (hz : Zc (.ref (B.ca y)) none oe) (hv : ∃ vs, oe.data = .fields vs)
    (he : PE X (.Name n p1) (tVar i)) (hA : PE X (.Name A p2) (tC vA)) (hcv : ∀ u, RelV vA u → u = cvA) (hC : ∀ t, o = some t → ExcC X.K (B.ca y) ∧ PySem.W.kitOne X.K (.ref (B.ca y)) cvA = some t)
    (hg : Gl X "isinstance") (hm : X.mg "isinstance" = none)
    (hs1 : starEach [.Name n p1, .Name A p2] X.env = (false, eval (.Name n p1) X.env) :: starEach [.Name A p2] X.env := by rfl)
    (hs2 : starEach [.Name A p2] X.env = (false, eval (.Name A p2) X.env) :: starEach [] X.env := by rfl)
    (hpl : (backTo pos (starEach [.Name A p2] X.env)).any (·.1) = false := by rfl) :
    PE X (.Call (.Name "isinstance" p) [.Name n p1, .Name A p2] [] pos) (rdE X.K (B.withE i a) W (eIs o)) := by
  cases o with
  | none => exact ⟨fun _ _ _ _ _ _ ⟨F, τ, vs, ds, s, h⟩ => False.elim h⟩
  | some t =>
    obtain ⟨C, hk⟩ := hC t rfl
    refine PE.imp (pe_callB (call_isP hp C hz hv) hg hm (by decide +kernel) (pa_cons he (pa_cons hA pa_nil hs2) hs1) (by decide) (by decide) hs1 hpl) fun σ H Q ⟨F, τ, vs, ds, s, h⟩ => ?_
    have io : IoOk (B.withE i a) σ := by obtain ⟨_, _, _, _, _, io⟩ := s; exact io
    exact ⟨.ref a, io (i, .ref a) List.mem_cons_self, vA, cvA, t, rfl, hcv, hk, h (.bl t) F H (s.push (d := .bl t) rfl)⟩
def spW (a : Addr) (o : Option Bool) : Sp := fun vs H Q _ => vs = [.ref a] ∧ ∃ b, o = some b ∧ ∀ H', Same H H' → Q (.bl b) H'
def hotR : SR → Option Bool
  | .rt (.bl b) _ => some b
  | _ => none
theorem hotR_some {r : SR} {b : Bool} (h : hotR r = some b) : ∃ τ, r = .rt (.bl b) τ := by
  cases r with
  | rt d τ =>
    cases d with
    | bl b' => cases h; exact ⟨τ, rfl⟩
    | _ => cases h
  | _ => cases h
theorem fn_okW {P : Program} {w : World} {K : PySem.W.Frag} {mg : Str → Option Value} {base : Heap} {ca : Str → Addr} {x qual y : Str} {st : Stmt} {f : Addr} {fd : FuncData} {N : List Str} {x0 : Str} {k : Nat} {b : MS} {a : Addr} {oe : Obj} (F : Fun K x qual st f fd) (S : FnScope N [x0] (defScope st)) (hN : 0 < N.length)
    (hb : ∀ (cdv : Value) (A : Around) (outer : List PySem.Env) (s : Shared) (H : Hp) (E : XK) (F0 R : Hp),
      PSs (L2H.cxH (L2.CX P w) P w K mg base N qual (defScope st) f cdv A outer s H E (a, oe)) (defBody st) (rdS K (Bx.withE ⟨ca, F0, R, []⟩ 0 a) W0 b)) :
    FnW P w K mg base (k + 1) f fd [x0] (a, oe) (spW a (hotR (b (List.replicate N.length none)))) := by
  obtain ⟨oc, od, kV, doc, pm, an, cdv, ct, osl, rfl, lk, hcd⟩ := F.ex
  refine fn_ofW lk hcd S (fun vs H Q E h => by obtain ⟨rfl, _⟩ := h; rfl) fun A outer s H vs Q E hr h => ?_
  obtain ⟨rfl, bb, eb, hq⟩ := h
  obtain ⟨τ, er⟩ := hotR_some eb
  refine ⟨_, hb cdv A outer s H E (fun _ => none) H, ?_⟩
  obtain ⟨n, hn⟩ : ∃ n, N.length = n + 1 := ⟨N.length - 1, by omega⟩
  have st0 : StT K (Bx.withE ⟨ca, fun _ => none, H, []⟩ 0 a) (fun _ => none) H (L2.start N [.ref a]) (List.replicate N.length none) [] [] := by
    refine ⟨fun _ => 0, fun _ => 0, ?_, ⟨rfl, fun _ => rfl⟩, ⟨fun _ => Nat.zero_le _, fun a q => absurd q (Nat.lt_irrefl _), fun a q => absurd q (Nat.lt_irrefl _), fun _ _ e => (by cases e), Same.refl _, Same.refl _, fun a q => .inl q⟩, fun p hp => ?_⟩
    · unfold L2.start
      rw [hn, List.replicate_succ]
      have s1 : Sl K ca (fun _ => none) H (List.replicate n none) (List.replicate n none) (fun _ => 0) := sl_start (ds := []) (vs := []) (k := n) rfl
      exact ⟨some (.ref a), _, rfl, s1⟩
    · rcases List.mem_cons.mp hp with rfl | hp
      · unfold L2.start; rfl
      · cases hp
  refine ⟨fun _ => none, _, [], [], st0, ?_⟩
  rw [er]
  intro v σ' F' H' s'
  obtain ⟨f1, f2, _, ⟨_, _, g1, g2, ee, hv, _, q⟩, w', _⟩ := s'
  cases ee
  cases (show v = .bl bb from hv.1)
  exact hq H' w'.sR
theorem e_callW {i : Nat} {a : Addr} {oe : Obj} {pn : List (Addr × Obj)} {n x x0 : Str} {k j : Nat} {f : Addr} {fd : FuncData} {o : Option Bool} {p p1 pos : Pos} (F : FnW X.prog X.w X.K X.mg X.base k f fd [x0] (a, oe) (spW a o)) (hr : Room j X.A) (hk : k ≤ j) (hg : Gl (X.suite a ((a, oe) :: pn)) x) (hm : X.mg x = some (.ref f)) (kp : PySem.W.keepIn X.K (.ref f) = true) (hb : Binds X.K fd [x0] [])
    (he : PE (X.suite a ((a, oe) :: pn)) (.Name n p1) (tVar i)) (hdb : (x == ("__debug__" : Str)) = false := by decide)
    (hs1 : starEach [.Name n p1] (X.suite a ((a, oe) :: pn)).env = (false, eval (.Name n p1) (X.suite a ((a, oe) :: pn)).env) :: starEach [] (X.suite a ((a, oe) :: pn)).env := by rfl)
    (hpl : (backTo pos (starEach [] (X.suite a ((a, oe) :: pn)).env)).any (·.1) = false := by rfl) :
    PE (X.suite a ((a, oe) :: pn)) (.Call (.Name x p) [.Name n p1] [] pos) (rdE X.K (B.withE i a) W0 (eIs o)) := by
  cases o with
  | none => exact ⟨fun _ _ _ _ _ _ ⟨F, τ, vs, ds, s, h⟩ => False.elim h⟩
  | some t =>
    have r1 := hr.mono hk
    refine PE.imp (pe_callW (X := X.suite a ((a, oe) :: pn)) F List.mem_cons_self ⟨r1.dp, r1.un⟩ hg hm kp hb (pa_cons he pa_nil hs1) hdb hs1 hpl) fun σ H Q ⟨F, τ, vs, ds, s, h⟩ => ?_
    have io : IoOk (B.withE i a) σ := by obtain ⟨_, _, _, _, _, io⟩ := s; exact io
    exact ⟨.ref a, io (i, .ref a) List.mem_cons_self, rfl, t, rfl, fun H' k1 => h (.bl t) F H' ((s.grown k1).push (d := .bl t) rfl)⟩
structure Ho (P : Program) (w : World) (K : PySem.W.Frag) (mg : Str → Option Value) (base : Heap) (ca : Str → Addr) (k : Nat) (x : Str) (o : Str → Option Bool) : Prop where
  ex : ∃ f fd x0, mg x = some (.ref f) ∧ PySem.W.keepIn K (.ref f) = true ∧ Binds K fd [x0] [] ∧ ∀ (a : Addr) (oe : Obj) (y : Str), Zc (.ref (ca y)) none oe → (∃ vs, oe.data = .fields vs) → FnW P w K mg base k f fd [x0] (a, oe) (spW a (o y))
theorem ho_of {P : Program} {w : World} {K : PySem.W.Frag} {mg : Str → Option Value} {base : Heap} {ca : Str → Addr} {x qual x0 : Str} {st : Stmt} {f : Addr} {fd : FuncData} {k : Nat} {o : Str → Option Bool} (F : Fun K x qual st f fd) (hm : mg x = some (.ref f)) (hb : Binds K fd [x0] [])
    (h : ∀ (a : Addr) (oe : Obj) (y : Str), Zc (.ref (ca y)) none oe → (∃ vs, oe.data = .fields vs) → FnW P w K mg base k f fd [x0] (a, oe) (spW a (o y))) : Ho P w K mg base ca k x o := ⟨f, fd, x0, hm, F.kp, hb, h⟩
theorem e_callHo {i : Nat} {a : Addr} {oe : Obj} {pn : List (Addr × Obj)} {n x y : Str} {k j : Nat} {o : Str → Option Bool} {p p1 pos : Pos} (G : Ho X.prog X.w X.K X.mg X.base B.ca k x o) (hz : Zc (.ref (B.ca y)) none oe) (hv : ∃ vs, oe.data = .fields vs) (hr : Room j X.A) (hg : Gl (X.suite a ((a, oe) :: pn)) x)
    (he : PE (X.suite a ((a, oe) :: pn)) (.Name n p1) (tVar i)) (hk : k ≤ j := by decide) (hdb : (x == ("__debug__" : Str)) = false := by decide)
    (hs1 : starEach [.Name n p1] (X.suite a ((a, oe) :: pn)).env = (false, eval (.Name n p1) (X.suite a ((a, oe) :: pn)).env) :: starEach [] (X.suite a ((a, oe) :: pn)).env := by rfl)
    (hpl : (backTo pos (starEach [] (X.suite a ((a, oe) :: pn)).env)).any (·.1) = false := by rfl) :
    PE (X.suite a ((a, oe) :: pn)) (.Call (.Name x p) [.Name n p1] [] pos) (rdE X.K (B.withE i a) W0 (eIs (o y))) := by
  obtain ⟨f, fd, x0, h1, h2, h3, h4⟩ := G.ex
  exact e_callW (h4 a oe y hz hv) hr hk hg h1 h2 h3 he hdb hs1 hpl
end
end Bn
namespace Lw
open PySem PySem.Spec PyProof.Rows L2 Bn
theorem sc__law_divisor : FnScope ["_law_a", "_law_b", "_law_rest"] ["_law_a", "_law_b"] (defScope s__law_divisor) := ⟨rfl, rfl, rfl, by decide +kernel, rfl, by decide +kernel, by decide +kernel⟩
theorem sc__law_text : FnScope ["_law_top", "_law_bottom"] ["_law_top", "_law_bottom"] (defScope s__law_text) := ⟨rfl, rfl, rfl, by decide +kernel, rfl, by decide +kernel, by decide +kernel⟩
theorem sc_whole_of : FnScope ["figures", "sign"] ["figures"] (defScope s_whole_of) := ⟨rfl, rfl, rfl, by decide +kernel, rfl, by decide +kernel, by decide +kernel⟩
theorem sc_divisor : FnScope ["a", "b", "rest"] ["a", "b"] (defScope s_divisor) := ⟨rfl, rfl, rfl, by decide +kernel, rfl, by decide +kernel, by decide +kernel⟩
theorem sc_fraction : FnScope ["top", "bottom", "shared"] ["top", "bottom"] (defScope s_fraction) := ⟨rfl, rfl, rfl, by decide +kernel, rfl, by decide +kernel, by decide +kernel⟩
theorem sc_number_of : FnScope ["word", "parts", "top", "bottom"] ["word"] (defScope s_number_of) := ⟨rfl, rfl, rfl, by decide +kernel, rfl, by decide +kernel, by decide +kernel⟩
theorem sc_written : FnScope ["a"] ["a"] (defScope s_written) := ⟨rfl, rfl, rfl, by decide +kernel, rfl, by decide +kernel, by decide +kernel⟩
theorem sc__law_other : FnScope ["_law_e"] ["_law_e"] (defScope s__law_other) := ⟨rfl, rfl, rfl, by decide +kernel, rfl, by decide +kernel, by decide +kernel⟩
theorem sc__law_refused : FnScope ["_law_word", "_law_heard", "_law_e"] ["_law_word"] (defScope s__law_refused) := ⟨rfl, rfl, rfl, by decide +kernel, rfl, by decide +kernel, by decide +kernel⟩
theorem sc__law_no_number : FnScope ["_law_way", "_law_cell", "_law_text_here", "_law_top", "_law_bottom", "_law_small", "_law_odd", "_law_at"] ["_law_way", "_law_cell", "_law_text_here", "_law_top", "_law_bottom"] (defScope s__law_no_number) := ⟨rfl, rfl, rfl, by decide +kernel, rfl, by decide +kernel, by decide +kernel⟩
theorem sc__law_cell_at : FnScope ["_law_script", "_law_k"] ["_law_script", "_law_k"] (defScope s__law_cell_at) := ⟨rfl, rfl, rfl, by decide +kernel, rfl, by decide +kernel, by decide +kernel⟩
theorem sc__law_whole : FnScope ["_law_found"] ["_law_found"] (defScope s__law_whole) := ⟨rfl, rfl, rfl, by decide +kernel, rfl, by decide +kernel, by decide +kernel⟩
theorem sc_law : FnScope ["_law_script", "_law_top", "_law_bottom", "_law_shared", "_law_text_here", "_law_found", "_law_far", "_law_great", "_law_heard"] ["_law_script"] (defScope s_law) := ⟨rfl, rfl, rfl, by decide +kernel, rfl, by decide +kernel, by decide +kernel⟩
def k_FIGURES : D := .str "0123456789"
def sub_BoxError : Str → Option Bool := fun y => if y = "NoNumber" then some true else if y = "NoRow" then some true else none
def is_NoBook : Str → Option Bool := fun y => if y = "NoNumber" then some false else if y = "NoRow" then some false else none
def is_NoCut : Str → Option Bool := fun y => if y = "NoNumber" then some false else if y = "NoRow" then some false else none
def is_NoName : Str → Option Bool := fun y => if y = "NoNumber" then some false else if y = "NoRow" then some false else none
def is_NoNumber : Str → Option Bool := fun y => if y = "NoNumber" then some true else if y = "NoRow" then some false else none
def is_NoRow : Str → Option Bool := fun y => if y = "NoNumber" then some false else if y = "NoRow" then some true else none
def is_NoSpan : Str → Option Bool := fun y => if y = "NoNumber" then some false else if y = "NoRow" then some false else none
def is_NoTask : Str → Option Bool := fun y => if y = "NoNumber" then some false else if y = "NoRow" then some false else none
def is_TooMuch : Str → Option Bool := fun y => if y = "NoNumber" then some false else if y = "NoRow" then some false else none
def is_ValueError : Str → Option Bool := fun y => if y = "NoNumber" then some true else if y = "NoRow" then some true else none
def caF (a_BoxError a_NoNumber a_NoRow a_NoBook a_NoCut a_NoName a_NoSpan a_NoTask a_TooMuch : Addr) : Str → Addr := fun y => if y = "BoxError" then a_BoxError else if y = "NoNumber" then a_NoNumber else if y = "NoRow" then a_NoRow else if y = "NoBook" then a_NoBook else if y = "NoCut" then a_NoCut else if y = "NoName" then a_NoName else if y = "NoSpan" then a_NoSpan else if y = "NoTask" then a_NoTask else if y = "TooMuch" then a_TooMuch else 0
def fuel__law_divisor1 : Bn.Env → Nat := fun _ => Bn.fuelN
def m__law_divisor : MS := (sSeq (sWhile fuel__law_divisor1 (tZ (z2 gGt (zVar 1) (zC (.int 0)))) (sSeq (sAsg (eZ (z2 gMod (zVar 0) (zVar 1))) (gN 2))
    (sSeq (sAsg (eVar 1) (gN 0))
    (sAsg (eVar 2) (gN 1)))))
    (sRet (eMv 0)))
def f__law_divisor : List D → CR := callF 2 3 m__law_divisor
def m__law_text : MS := (sSeq (sIf (tZ (z2 gEq (zVar 1) (zC (.int 1)))) (sRet (eC gStrI (aCons (eVar 0) aNil))) sNil)
    (sRet (e2 gAddS (e2 gAddS (eC gStrI (aCons (eVar 0) aNil)) (eZ (zC (.str "/")))) (eC gStrI (aCons (eVar 1) aNil)))))
def f__law_text : List D → CR := callF 2 2 m__law_text
def m_whole_of : MS := (sSeq (sIf (tOr (tZ (z2 gEq (zVar 0) (zC (.str "")))) (tZ (z2 gGt (zC' gLen (zaCons (zVar 0) zaNil)) (zC (.int 9))))) (sRaise "NoRow") sNil)
    (sSeq (sFor (iS (eVar 0)) (gN 1) (sIf (tZ (z2 (gInS true) (zVar 1) (zC k_FIGURES))) (sRaise "NoRow") sNil))
    (sSeq (sIf (tAnd (tZ (z2 gEq (z2 gIx (zVar 0) (zC (.int 0))) (zC (.str "0")))) (tZ (z2 gGt (zC' gLen (zaCons (zVar 0) zaNil)) (zC (.int 1))))) (sRaise "NoRow") sNil)
    (sRet (eC gIntS (aCons (eVar 0) aNil))))))
def f_whole_of : List D → CR := callF 1 2 m_whole_of
def fuel_divisor1 : Bn.Env → Nat := fun _ => Bn.fuelN
def m_divisor : MS := (sSeq (sAsg (eZ (zC' gAbs (zaCons (zVar 0) zaNil))) (gN 0))
    (sSeq (sAsg (eZ (zC' gAbs (zaCons (zVar 1) zaNil))) (gN 1))
    (sSeq (sWhile fuel_divisor1 (tZ (z2 gGt (zVar 1) (zC (.int 0)))) (sSeq (sAsg (eZ (z2 gMod (zVar 0) (zVar 1))) (gN 2))
    (sSeq (sAsg (eVar 1) (gN 0))
    (sAsg (eVar 2) (gN 1)))))
    (sRet (eMv 0)))))
def f_divisor : List D → CR := callF 2 3 m_divisor
def m_fraction : MS := (sSeq (sIf (tZ (z2 gEq (zVar 1) (zC (.int 0)))) (sRaise "NoNumber") sNil)
    (sSeq (sIf (tZ (z2 gLt (zVar 1) (zC (.int 0)))) (sSeq (sAsg (eZ (z1 gNeg (zVar 0))) (gN 0))
    (sAsg (eZ (z1 gNeg (zVar 1))) (gN 1))) sNil)
    (sSeq (sAsg (eCall f_divisor (aCons (eVar 0) (aCons (eVar 1) aNil))) (gN 2))
    (sRet (eTup (aCons (eZ (z2 gDiv (zVar 0) (zVar 2))) (aCons (eZ (z2 gDiv (zVar 1) (zVar 2))) aNil)))))))
def f_fraction : List D → CR := callF 2 3 m_fraction
def m_number_of : MS := (sSeq (sAsg (eSplit (eVar 0) (eZ (zC (.str "/")))) (gN 1))
    (sSeq (sIf (tZ (z2 gGt (zC' gLen (zaCons (zVar 1) zaNil)) (zC (.int 2)))) (sRaise "NoRow") sNil)
    (sSeq (sIf (tE (e2 gEq (eSlice cutSd (eZ (z2 gIx (zVar 1) (zC (.int 0)))) pNone (pSome (eZ (zC (.int 1))))) (eZ (zC (.str "-"))))) (sSeq (sAsg (e1 gNeg (eCall f_whole_of (aCons (eSlice cutSd (eZ (z2 gIx (zVar 1) (zC (.int 0)))) (pSome (eZ (zC (.int 1)))) pNone) aNil))) (gN 2))
    (sIf (tZ (z2 gEq (zVar 2) (zC (.int 0)))) (sRaise "NoRow") sNil)) (sAsg (eCall f_whole_of (aCons (eZ (z2 gIx (zVar 1) (zC (.int 0)))) aNil)) (gN 2)))
    (sSeq (sIf (tZ (z2 gEq (zC' gLen (zaCons (zVar 1) zaNil)) (zC (.int 1)))) (sRet (eTup (aCons (eVar 2) (aCons (eZ (zC (.int 1))) aNil)))) sNil)
    (sSeq (sAsg (eCall f_whole_of (aCons (eZ (z2 gIx (zVar 1) (zC (.int 1)))) aNil)) (gN 3))
    (sSeq (sIf (tOr (tZ (z2 gLt (zVar 3) (zC (.int 2)))) (tE (e2 gNe (eCall f_fraction (aCons (eVar 2) (aCons (eVar 3) aNil))) (eTup (aCons (eVar 2) (aCons (eVar 3) aNil)))))) (sRaise "NoRow") sNil)
    (sRet (eTup (aCons (eVar 2) (aCons (eVar 3) aNil))))))))))
def f_number_of : List D → CR := callF 1 4 m_number_of
def m_written : MS := (sSeq (sIf (tZ (z2 gEq (z2 gIx (zVar 0) (zC (.int 1))) (zC (.int 1)))) (sRet (eC gStrI (aCons (eZ (z2 gIx (zVar 0) (zC (.int 0)))) aNil))) sNil)
    (sRet (e2 gAddS (e2 gAddS (eC gStrI (aCons (eZ (z2 gIx (zVar 0) (zC (.int 0)))) aNil)) (eZ (zC (.str "/")))) (eC gStrI (aCons (eZ (z2 gIx (zVar 0) (zC (.int 1)))) aNil)))))
def f_written : List D → CR := callF 1 1 m_written
def hm__law_other (y : Str) : MS := (sSeq (sIf (tOr (tE (eIs (is_NoNumber y))) (tOr (tE (eIs (is_NoSpan y))) (tOr (tE (eIs (is_NoCut y))) (tE (eIs (is_NoName y)))))) (sRet (eZ (zC (.bl true)))) sNil)
    (sRet (eOr (eIs (is_TooMuch y)) (eOr (eIs (is_NoTask y)) (eIs (is_NoBook y))))))
def ho__law_other : Str → Option Bool := fun y => hotR (hm__law_other y (List.replicate 1 none))
def m__law_refused : MS := (sSeq (sAsg (eZ (zC (.bl false))) (gN 1))
    (sSeq (sTryAs 2 sub_BoxError (sDrop (eCall f_number_of (aCons (eVar 0) aNil))) (fun y => (sAsg (eAnd (eIs (is_NoRow y)) (eAnd (eIs (is_ValueError y)) (eNot (eIs (ho__law_other y))))) (gN 1))))
    (sRet (eMv 1))))
def f__law_refused : List D → CR := callF 1 3 m__law_refused
def m__law_no_number : MS := (sSeq (sAsg (eC gStrI (aCons (eZ (z2 gAdd (zC (.int 1)) (z2 gMod (zVar 1) (zC (.int 999))))) aNil)) (gN 5))
    (sSeq (sAsg (eLst (aCons (eZ (zC (.str ""))) (aCons (eZ (zC (.str "-"))) (aCons (eZ (zC (.str "-0"))) (aCons (eZ (zC (.str "/"))) (aCons (eZ (zC (.str "--1"))) (aCons (eZ (zC (.str "00"))) (aCons (eZ (zC (.str "-/2"))) (aCons (eZ (zC (.str "1//2"))) (aCons (eZ (z2 gAddS (zC (.str "/")) (zVar 5))) (aCons (eZ (z2 gAddS (zVar 5) (zC (.str "/")))) aNil))))))))))) (gN 6))
    (sSeq (sIf (tZ (z2 gEq (z2 gMod (zVar 0) (zC (.int 4))) (zC (.int 0)))) (sSeq (sAsg (eZ (z2 gMod (z2 gDiv (zVar 1) (zC (.int 19))) (z2 gAdd (zC' gLen (zaCons (zVar 2) zaNil)) (zC (.int 1))))) (gN 7))
    (sRet (e2 gAddS (e2 gAddS (eSlice cutSd (eVar 2) pNone (pSome (eVar 7))) (eZ (z2 gIx (zC (.str " +.a^xE_,=\\'\"~!(")) (z2 gMod (zVar 1) (zC (.int 16)))))) (eSlice cutSd (eVar 2) (pSome (eVar 7)) pNone)))) sNil)
    (sSeq (sIf (tZ (z2 gEq (z2 gMod (zVar 0) (zC (.int 4))) (zC (.int 1)))) (sRet (eZ (z2 gIx (zVar 6) (z2 gMod (zVar 1) (zC (.int 10)))))) sNil)
    (sSeq (sIf (tZ (z2 gEq (z2 gMod (z2 gDiv (zVar 0) (zC (.int 4))) (zC (.int 4))) (zC (.int 0)))) (sRet (e2 gAddS (e2 gIx (eLst (aCons (eZ (zC (.str "0"))) (aCons (eZ (zC (.str "-0"))) aNil))) (eZ (z2 gMod (zVar 1) (zC (.int 2))))) (eC gStrI (aCons (eZ (zC' gAbs (zaCons (zVar 3) zaNil))) aNil)))) sNil)
    (sSeq (sIf (tZ (z2 gEq (z2 gMod (z2 gDiv (zVar 0) (zC (.int 4))) (zC (.int 4))) (zC (.int 1)))) (sRet (e2 gAddS (e2 gAddS (eC gStrI (aCons (eVar 3) aNil)) (eZ (zC (.str "/")))) (e2 gIx (eLst (aCons (eZ (zC (.str "1"))) (aCons (eZ (zC (.str "0"))) (aCons (eZ (z2 gAddS (zC (.str "-")) (zVar 5))) (aCons (eZ (z2 gAddS (zC (.str "0")) (zVar 5))) aNil))))) (eZ (z2 gMod (zVar 1) (zC (.int 4))))))) sNil)
    (sSeq (sIf (tZ (z2 gEq (z2 gMod (z2 gDiv (zVar 0) (zC (.int 4))) (zC (.int 4))) (zC (.int 2)))) (sRet (e2 gAddS (e2 gAddS (eC gStrI (aCons (eZ (z2 gMulA (zVar 3) (z2 gAdd (zC (.int 2)) (z2 gMod (zVar 1) (zC (.int 7)))))) aNil)) (eZ (zC (.str "/")))) (eC gStrI (aCons (eZ (z2 gMulA (zVar 4) (z2 gAdd (zC (.int 2)) (z2 gMod (zVar 1) (zC (.int 7)))))) aNil)))) sNil)
    (sRet (e2 gAddS (e2 gIx (eLst (aCons (eZ (zC (.str ""))) (aCons (eZ (zC (.str "-"))) (aCons (eZ (zC (.str "1/"))) aNil)))) (eZ (z2 gMod (zVar 1) (zC (.int 3))))) (eC gStrI (aCons (eZ (z2 gAdd (z2 gPow (zC (.int 10)) (zC (.int 9))) (z2 gMod (zVar 1) (z2 gPow (zC (.int 10)) (zC (.int 12)))))) aNil)))))))))))
def f__law_no_number : List D → CR := callF 5 8 m__law_no_number
def m__law_cell_at : MS := (sSeq (sIf (tZ (z2 gLt (zVar 1) (zC' gLen (zaCons (zVar 0) zaNil)))) (sRet (eZ (z2 gIx (zVar 0) (zVar 1)))) sNil)
    (sRet (eZ (zC (.int 0)))))
def f__law_cell_at : List D → CR := callF 2 2 m__law_cell_at
def m__law_whole : MS := (sRet (eAnd (eZ (zC' gIsi (zaCons (zVar 0) (zaCons (zC (.ty "int")) zaNil)))) (eNot (eZ (zC' gIsi (zaCons (zVar 0) (zaCons (zC (.ty "bool")) zaNil)))))))
def f__law_whole : List D → CR := callF 1 1 m__law_whole
def m_law : MS := (sSeq (sAsg (e2 gSub (e2 gMod (eCall f__law_cell_at (aCons (eVar 0) (aCons (eZ (zC (.int 0))) aNil))) (eZ (z2 gSub (z2 gMulA (zC (.int 2)) (z2 gPow (zC (.int 10)) (zC (.int 9)))) (zC (.int 1))))) (eZ (z2 gSub (z2 gPow (zC (.int 10)) (zC (.int 9))) (zC (.int 1))))) (gN 1))
    (sSeq (sAsg (e2 gAdd (eZ (zC (.int 1))) (e2 gMod (eCall f__law_cell_at (aCons (eVar 0) (aCons (eZ (zC (.int 1))) aNil))) (eZ (z2 gSub (z2 gPow (zC (.int 10)) (zC (.int 9))) (zC (.int 1)))))) (gN 2))
    (sSeq (sIf (tE (e2 gEq (e2 gMod (eCall f__law_cell_at (aCons (eVar 0) (aCons (eZ (zC (.int 2))) aNil))) (eZ (zC (.int 3)))) (eZ (zC (.int 1))))) (sAsg (eZ (zC (.int 1))) (gN 2)) sNil)
    (sSeq (sIf (tE (e2 gEq (e2 gMod (eCall f__law_cell_at (aCons (eVar 0) (aCons (eZ (zC (.int 2))) aNil))) (eZ (zC (.int 3)))) (eZ (zC (.int 2))))) (sSeq (sAsg (eZ (z2 gSub (z2 gMod (zVar 1) (zC (.int 401))) (zC (.int 200)))) (gN 1))
    (sAsg (eZ (z2 gAdd (zC (.int 1)) (z2 gMod (zVar 2) (zC (.int 60))))) (gN 2))) sNil)
    (sSeq (sAsg (eCall f__law_divisor (aCons (eZ (zC' gAbs (zaCons (zVar 1) zaNil))) (aCons (eVar 2) aNil))) (gN 3))
    (sSeq (sAsg (eZ (z2 gDiv (zVar 1) (zVar 3))) (gN 1))
    (sSeq (sAsg (eZ (z2 gDiv (zVar 2) (zVar 3))) (gN 2))
    (sSeq (sAsg (eCall f__law_text (aCons (eVar 1) (aCons (eVar 2) aNil))) (gN 4))
    (sSeq (sAsg (eCall f_number_of (aCons (eVar 4) aNil)) (gN 5))
    (sSeq (sIf (tOr (tNot (tZ (zC' gIsi (zaCons (zVar 5) (zaCons (zC (.ty "tuple")) zaNil))))) (tOr (tZ (z2 gNe (zC' gLen (zaCons (zVar 5) zaNil)) (zC (.int 2)))) (tOr (tNot (tE (eCall f__law_whole (aCons (eZ (z2 gIx (zVar 5) (zC (.int 0)))) aNil)))) (tNot (tE (eCall f__law_whole (aCons (eZ (z2 gIx (zVar 5) (zC (.int 1)))) aNil))))))) (sRet (eZ (zC (.bl false)))) sNil)
    (sSeq (sIf (tOr (tE (e2 gNe (eVar 5) (eTup (aCons (eVar 1) (aCons (eVar 2) aNil))))) (tE (e2 gNe (eCall f_written (aCons (eTup (aCons (eVar 1) (aCons (eVar 2) aNil))) aNil)) (eVar 4)))) (sRet (eZ (zC (.bl false)))) sNil)
    (sSeq (sAsg (e2 gAdd (eZ (zC (.int 1))) (e2 gMod (eCall f__law_cell_at (aCons (eVar 0) (aCons (eZ (zC (.int 3))) aNil))) (eZ (z2 gPow (zC (.int 10)) (zC (.int 60)))))) (gN 6))
    (sSeq (sAsg (e2 gAdd (e2 gMulA (e2 gSub (e2 gMod (eCall f__law_cell_at (aCons (eVar 0) (aCons (eZ (zC (.int 4))) aNil))) (eZ (z2 gMulA (z2 gMulA (zC (.int 2)) (z2 gPow (zC (.int 10)) (zC (.int 60)))) (z2 gPow (zC (.int 10)) (zC (.int 60)))))) (eZ (z2 gMulA (z2 gPow (zC (.int 10)) (zC (.int 60))) (z2 gPow (zC (.int 10)) (zC (.int 60)))))) (eVar 6)) (eZ (zC (.int 1)))) (gN 7))
    (sSeq (sAsg (eCall f_written (aCons (eTup (aCons (eVar 7) (aCons (eVar 6) aNil))) aNil)) (gN 8))
    (sSeq (sIf (tOr (tNot (tZ (zC' gIsi (zaCons (zVar 8) (zaCons (zC (.ty "str")) zaNil))))) (tE (e2 gNe (eVar 8) (eCall f__law_text (aCons (eVar 7) (aCons (eVar 6) aNil)))))) (sRet (eZ (zC (.bl false)))) sNil)
    (sRet (eCall f__law_refused (aCons (eCall f__law_no_number (aCons (e2 gMod (eCall f__law_cell_at (aCons (eVar 0) (aCons (eZ (zC (.int 5))) aNil))) (eZ (zC (.int 16)))) (aCons (eCall f__law_cell_at (aCons (eVar 0) (aCons (eZ (zC (.int 6))) aNil))) (aCons (eVar 4) (aCons (eVar 1) (aCons (eVar 2) aNil)))))) aNil))))))))))))))))))
def f_law : List D → CR := callF 1 9 m_law
end Lw
namespace Lw
open Bn PySem
@[irreducible] noncomputable def n__law_cell_at (script' : (List Int)) (k' : Int) : N Int := NS.f (σ := Unit) (κ := Unit) (
if (decide (k' < ((script').length : Int))) = true then
N.s (N.ix script' k') fun x2 => NS.rt x2
else
NS.rt 0)
theorem vf__law_cell_at : VF f__law_cell_at (fun (a : ((List Int) × Int)) => n__law_cell_at a.1 a.2) (eCons eCn (eOne eI)) eI := by
  rintro ⟨script', k'⟩ ds h
  show SatC _ (n__law_cell_at script' k') _
  unfold n__law_cell_at
  exact satC_of (L := fun (_ : Unit) => []) (G' := fun (_ : Unit) => [.any, .any]) (n := 2) (N := 2) (b := m__law_cell_at) rfl ((inil_cons inil_one) _ _ h) rfl ((vs_ifP (vt_z (vz_2 (v := N.ok (decide (k' < ((script').length : Int)))) vz_var (vz_call (v := N.ok ((script').length : Int)) (vza_one vz_var) c_lenC nx_p1 ) o_lt nx_p2)) (vs_stop (vs_ret (ve_z (vz_2 (v := (N.ix script' k')) vz_var vz_var o_ixC nx_ix) zf_I) (fun a => a) (fun a d τ h s => h))) (vs_doc (vs_retP (ve_z vz_i zf_I) (fun a => a) (fun a d τ h s => h)))))
@[irreducible] noncomputable def n__law_divisor (a' : Int) (b' : Int) : N Int := NS.f (σ := Unit) (κ := Unit) (
NS.s (whileN (fun (s19 : (Int × Int)) => (N.ok (decide (0 < s19.2)))) (fun (s19 : (Int × Int)) =>
N.s (N.mod s19.1 s19.2) fun rest'1 =>
NS.nx (s19.2, rest'1)) fuelN (a', b')) fun s20 =>
NS.rt s20.1)
theorem vf__law_divisor : VF f__law_divisor (fun (a : (Int × Int)) => n__law_divisor a.1 a.2) (eCons eI (eOne eI)) eI := by
  rintro ⟨a', b'⟩ ds h
  show SatC _ (n__law_divisor a' b') _
  unfold n__law_divisor
  exact satC_of (L := fun (_ : Unit) => []) (G' := fun (_ : Unit) => [.any, .any, .any]) (n := 2) (N := 3) (b := m__law_divisor) rfl ((inil_cons inil_one) _ _ h) rfl ((vs_while (F := fuelN) (GI := fun (y : (Int × Int)) => [.val eI y.1, .val eI y.2, .any]) (GC := fun (y : (Int × Int)) => [.val eI y.1, .val eI y.2, .any]) (s0 := (a', b')) ent_id (fun s19 => (vt_ent (vt_z (vz_2 (v := N.ok (decide (0 < s19.2))) vz_var vz_i o_gt nx_p2)) ent_id)) (fun s19 => (vs_asg (ve_z (vz_2 (v := (N.mod s19.1 s19.2)) vz_var vz_var o_mod nx_mod) zf_I) vg_n (fun rest'1 => (vs_asgP (ve_varF zf_I) vg_n (vs_one (vs_asgP (ve_varF zf_I) vg_n (vs_end (ent_cons se_id (ent_cons se_id (ent_cons se_any ent_nil)))))))))) (fun _ => ent_id) (fun s20 => (vs_retP ve_mv (fun a => a) (fun a d τ h s => h)))))
@[irreducible] noncomputable def n__law_text (top' : Int) (bottom' : Int) : N Str := NS.f (σ := Unit) (κ := Unit) (
if (decide (bottom' = 1)) = true then
N.s (N.str top') fun x26 => NS.rt x26
else
N.s (N.bind (N.bind (N.str top') fun x27 => (N.sadd x27 ("/" : Str))) fun x28 => N.bind (N.str bottom') fun x29 => (N.sadd x28 x29)) fun x30 => NS.rt x30)
theorem vf__law_text : VF f__law_text (fun (a : (Int × Int)) => n__law_text a.1 a.2) (eCons eI (eOne eI)) eS := by
  rintro ⟨top', bottom'⟩ ds h
  show SatC _ (n__law_text top' bottom') _
  unfold n__law_text
  exact satC_of (L := fun (_ : Unit) => []) (G' := fun (_ : Unit) => [.any, .any]) (n := 2) (N := 2) (b := m__law_text) rfl ((inil_cons inil_one) _ _ h) rfl ((vs_ifP (vt_z (vz_2 (v := N.ok (decide (bottom' = 1))) vz_var vz_i o_eqI nx_p2)) (vs_stop (vs_ret (ve_c (v := (N.str top')) (va_one (ve_varF zf_I)) c_str zf_S nx_str ) (fun a => a) (fun a d τ h s => h))) (vs_doc (vs_ret (ve_2 (v := (N.bind (N.bind (N.str top') fun x27 => (N.sadd x27 ("/" : Str))) fun x28 => N.bind (N.str bottom') fun x29 => (N.sadd x28 x29))) (ve_2 (v := (N.bind (N.str top') fun x27 => (N.sadd x27 ("/" : Str)))) (ve_c (v := (N.str top')) (va_one (ve_varF zf_I)) c_str zf_S nx_str ) (ve_z vz_s zf_S) o_sadd zf_S nx_sadd) (ve_c (v := (N.str bottom')) (va_one (ve_varF zf_I)) c_str zf_S nx_str ) o_sadd zf_S nx_sadd) (fun a => a) (fun a d τ h s => h)))))
@[irreducible] noncomputable def n_whole_of (figures' : Str) : N Int := NS.f (σ := Unit) (κ := Unit) (
N.s (N.or (N.gb (gEq (D.str figures') (D.str ("" : Str)))) (N.bind (N.slen figures') fun x47 => N.ok (decide (9 < x47)))) fun b57 => if b57 = true then
NS.ex "NoRow"
else
N.s (N.ok (signs figures')) fun x56 =>
NS.s (forN (fun (sign' : Str) (s48 : Unit) =>
N.s (N.not (N.sin sign' ("0123456789" : Str))) fun b50 => if b50 = true then
NS.ex "NoRow"
else
NS.nx ()) x56 ()) fun s51 =>
N.s (N.and (N.bind (N.six figures' 0) fun x52 => (N.gb (gEq (D.str x52) (D.str ("0" : Str))))) (N.bind (N.slen figures') fun x53 => N.ok (decide (1 < x53)))) fun b55 => if b55 = true then
NS.ex "NoRow"
else
N.s (N.int figures') fun x54 => NS.rt x54)
theorem vf_whole_of : VF f_whole_of (fun (a : Str) => n_whole_of a) (eOne eS) eI := by
  rintro figures' ds h
  show SatC _ (n_whole_of figures') _
  unfold n_whole_of
  exact satC_of (L := fun (_ : Unit) => []) (G' := fun (_ : Unit) => [.any, .any]) (n := 1) (N := 2) (b := m_whole_of) rfl (inil_one _ _ h) rfl ((vs_if (vt_or (vt_z (vz_2 (v := (N.gb (gEq (D.str figures') (D.str ("" : Str))))) vz_var vz_s (o_eq fn_S fn_S) nx_gb2)) (vt_z (vz_2 (v := (N.bind (N.slen figures') fun x47 => N.ok (decide (9 < x47)))) (vz_call (v := (N.slen figures')) (vza_one vz_var) c_lenS nx_slen ) vz_i o_gt nx_p2)) ent_id) (vs_stop (vs_raise xt)) (vs_doc (vs_for (GI := fun (y : Unit) => [.val eS figures', .any]) (s0 := ()) (vi_s (w := N.ok (signs figures')) (ve_varF zf_S)) vg_n ent_id (fun (sign' : Str) (s48 : Unit) => (vs_one (vs_if (vt_z (vz_2 (v := (N.not (N.sin sign' ("0123456789" : Str)))) vz_var (vz_c (show eS "0123456789" k_FIGURES from rfl)) o_snotin nx_snotin)) (vs_stop (vs_raise xt)) (vs_doc (vs_end (ent_cons se_id (ent_cons se_any ent_nil))))))) (fun (s51 : Unit) => (vs_if (vt_and (vt_z (vz_2 (v := (N.bind (N.six figures' 0) fun x52 => (N.gb (gEq (D.str x52) (D.str ("0" : Str)))))) (vz_2 (v := (N.six figures' 0)) vz_var vz_i o_six nx_six) vz_s (o_eq fn_S fn_S) nx_gb2)) (vt_z (vz_2 (v := (N.bind (N.slen figures') fun x53 => N.ok (decide (1 < x53)))) (vz_call (v := (N.slen figures')) (vza_one vz_var) c_lenS nx_slen ) vz_i o_gt nx_p2)) ent_id) (vs_stop (vs_raise xt)) (vs_doc (vs_ret (ve_c (v := (N.int figures')) (va_one (ve_varF zf_S)) c_intS zf_I nx_int ) (fun a => a) (fun a d τ h s => h)))))))))
@[irreducible] noncomputable def n_divisor (a' : Int) (b' : Int) : N Int := NS.f (σ := Unit) (κ := Unit) (
N.s (N.ok (if a' < 0 then -a' else a')) fun a'1 =>
N.s (N.ok (if b' < 0 then -b' else b')) fun b'1 =>
NS.s (whileN (fun (s70 : (Int × Int)) => (N.ok (decide (0 < s70.2)))) (fun (s70 : (Int × Int)) =>
N.s (N.mod s70.1 s70.2) fun rest'1 =>
NS.nx (s70.2, rest'1)) fuelN (a'1, b'1)) fun s71 =>
NS.rt s71.1)
theorem vf_divisor : VF f_divisor (fun (a : (Int × Int)) => n_divisor a.1 a.2) (eCons eI (eOne eI)) eI := by
  rintro ⟨a', b'⟩ ds h
  show SatC _ (n_divisor a' b') _
  unfold n_divisor
  exact satC_of (L := fun (_ : Unit) => []) (G' := fun (_ : Unit) => [.any, .any, .any]) (n := 2) (N := 3) (b := m_divisor) rfl ((inil_cons inil_one) _ _ h) rfl ((vs_asg (ve_z (vz_call (v := N.ok (if a' < 0 then -a' else a')) (vza_one vz_var) c_abs nx_p1 ) zf_I) vg_n (fun a'1 => (vs_asg (ve_z (vz_call (v := N.ok (if b' < 0 then -b' else b')) (vza_one vz_var) c_abs nx_p1 ) zf_I) vg_n (fun b'1 => (vs_while (F := fuelN) (GI := fun (y : (Int × Int)) => [.val eI y.1, .val eI y.2, .any]) (GC := fun (y : (Int × Int)) => [.val eI y.1, .val eI y.2, .any]) (s0 := (a'1, b'1)) ent_id (fun s70 => (vt_ent (vt_z (vz_2 (v := N.ok (decide (0 < s70.2))) vz_var vz_i o_gt nx_p2)) ent_id)) (fun s70 => (vs_asg (ve_z (vz_2 (v := (N.mod s70.1 s70.2)) vz_var vz_var o_mod nx_mod) zf_I) vg_n (fun rest'1 => (vs_asgP (ve_varF zf_I) vg_n (vs_one (vs_asgP (ve_varF zf_I) vg_n (vs_end (ent_cons se_id (ent_cons se_id (ent_cons se_any ent_nil)))))))))) (fun _ => ent_id) (fun s71 => (vs_retP ve_mv (fun a => a) (fun a d τ h s => h)))))))))
@[irreducible] noncomputable def n_fraction (top' : Int) (bottom' : Int) : N (Int × Int) := NS.f (σ := Unit) (κ := Unit) (
if (decide (bottom' = 0)) = true then
NS.ex "NoNumber"
else
NS.s (
if (decide (bottom' < 0)) = true then
N.s (N.ok (-top')) fun top'2 =>
N.s (N.ok (-bottom')) fun bottom'2 =>
NS.nx (top'2, bottom'2)
else
NS.nx (top', bottom')) fun s77 =>
N.s (n_divisor s77.1 s77.2) fun shared' =>
N.s (N.bind (N.div s77.1 shared') fun x78 => N.bind (N.div s77.2 shared') fun x79 => N.ok (x78, x79)) fun x82 => NS.rt x82)
theorem vf_fraction : VF f_fraction (fun (a : (Int × Int)) => n_fraction a.1 a.2) (eCons eI (eOne eI)) (eTu (eCons eI (eOne eI))) := by
  rintro ⟨top', bottom'⟩ ds h
  show SatC _ (n_fraction top' bottom') _
  unfold n_fraction
  exact satC_of (L := fun (_ : Unit) => []) (G' := fun (_ : Unit) => [.any, .any, .any]) (n := 2) (N := 3) (b := m_fraction) rfl ((inil_cons inil_one) _ _ h) rfl ((vs_ifP (vt_z (vz_2 (v := N.ok (decide (bottom' = 0))) vz_var vz_i o_eqI nx_p2)) (vs_stop (vs_raise xt)) (vs_doc (vs_ifJP (GJ := fun (y : (Int × Int)) => [.val eI y.1, .val eI y.2, .any]) (vt_z (vz_2 (v := N.ok (decide (bottom' < 0))) vz_var vz_i o_lt nx_p2)) (vs_asg (ve_z (vz_1 (v := N.ok (-top')) vz_var o_neg nx_p1) zf_I) vg_n (fun top'2 => (vs_one (vs_asg (ve_z (vz_1 (v := N.ok (-bottom')) vz_var o_neg nx_p1) zf_I) vg_n (fun bottom'2 => (vs_end ent_id)))))) (vs_end ent_id) (fun s77 => (vs_asg (ve_call (v := (n_divisor s77.1 s77.2)) (va_cons (u := N.ok (s77.1, s77.2)) (ve_varF zf_I) (va_one (ve_varF zf_I))) vf_divisor (fzl_cons (fz_z zf_I) (fzl_one (fz_z zf_I))) xt ) vg_n (fun shared' => (vs_ret (ve_tup (va_cons (u := (N.bind (N.div s77.1 shared') fun x80 => N.bind (N.div s77.2 shared') fun x81 => N.ok (x80, x81))) (ve_z (vz_2 (v := (N.div s77.1 shared')) vz_var vz_var o_div nx_div) zf_I) (va_one (ve_z (vz_2 (v := (N.div s77.2 shared')) vz_var vz_var o_div nx_div) zf_I))) (fzl_cons (fz_z zf_I) (fzl_one (fz_z zf_I))) (len_cons len_one)) (fun a => a) (fun a d τ h s => h)))))))))
@[irreducible] noncomputable def n_number_of (word' : Str) : N (Int × Int) := NS.f (σ := Unit) (κ := Unit) (
N.s (N.split word' ("/" : Str)) fun parts' =>
if (decide (2 < ((parts').length : Int))) = true then
NS.ex "NoRow"
else
NS.s (
N.s (N.bind (N.bind (N.ix parts' 0) fun x87 => (N.cutS x87 none (some 1))) fun x88 => (N.gb (gEq (D.str x88) (D.str ("-" : Str))))) fun b102 => if b102 = true then
N.s (N.bind (N.bind (N.bind (N.ix parts' 0) fun x93 => (N.cutS x93 (some 1) none)) fun x94 => (n_whole_of x94)) fun x95 => N.ok (-x95)) fun top'2 =>
if (decide (top'2 = 0)) = true then
NS.ex "NoRow"
else
NS.nx top'2
else
N.s (N.bind (N.ix parts' 0) fun x96 => (n_whole_of x96)) fun top'3 =>
NS.nx top'3) fun s97 =>
if (decide (((parts').length : Int) = 1)) = true then
NS.rt (s97, 1)
else
N.s (N.bind (N.ix parts' 1) fun x98 => (n_whole_of x98)) fun bottom' =>
N.s (N.or (N.ok (decide (bottom' < 2))) (N.bind (n_fraction s97 bottom') fun x100 => (N.gb (gNe (D.tup [(D.int x100.1), (D.int x100.2)]) (D.tup [(D.int s97), (D.int bottom')]))))) fun b101 => if b101 = true then
NS.ex "NoRow"
else
NS.rt (s97, bottom'))
theorem vf_number_of : VF f_number_of (fun (a : Str) => n_number_of a) (eOne eS) (eTu (eCons eI (eOne eI))) := by
  rintro word' ds h
  show SatC _ (n_number_of word') _
  unfold n_number_of
  exact satC_of (L := fun (_ : Unit) => []) (G' := fun (_ : Unit) => [.any, .any, .any, .any]) (n := 1) (N := 4) (b := m_number_of) rfl (inil_one _ _ h) rfl ((vs_asg (ve_split (u := (N.split word' ("/" : Str))) (ve_varF zf_S) (ve_z vz_s zf_S)) vg_n (fun parts' => (vs_ifP (vt_z (vz_2 (v := N.ok (decide (2 < ((parts').length : Int)))) (vz_call (v := N.ok ((parts').length : Int)) (vza_one vz_var) c_len nx_p1 ) vz_i o_gt nx_p2)) (vs_stop (vs_raise xt)) (vs_doc (vs_ifJ (GJ := fun (y : Int) => [.val eS word', .val (eLi true eS) parts', .val eI y, .any]) (vt_e (ve_2 (v := (N.bind (N.bind (N.ix parts' 0) fun x87 => (N.cutS x87 none (some 1))) fun x88 => (N.gb (gEq (D.str x88) (D.str ("-" : Str)))))) (ve_slice (w := (N.bind (N.ix parts' 0) fun x87 => (N.cutS x87 none (some 1)))) (ve_z (vz_2 (v := (N.ix parts' 0)) vz_var vz_i o_ix nx_ix) zf_S) (fz_z zf_S) vp_none (vp_some (ve_z vz_i zf_I)) sl_S nx_cutS) (ve_z vz_s zf_S) (o_eq fn_S fn_S) zf_B nx_gb2)) (vs_asg (ve_1 (v := (N.bind (N.bind (N.bind (N.ix parts' 0) fun x93 => (N.cutS x93 (some 1) none)) fun x94 => (n_whole_of x94)) fun x95 => N.ok (-x95))) (ve_call (v := (N.bind (N.bind (N.ix parts' 0) fun x93 => (N.cutS x93 (some 1) none)) fun x94 => (n_whole_of x94))) (va_one (ve_slice (w := (N.bind (N.ix parts' 0) fun x93 => (N.cutS x93 (some 1) none))) (ve_z (vz_2 (v := (N.ix parts' 0)) vz_var vz_i o_ix nx_ix) zf_S) (fz_z zf_S) (vp_some (ve_z vz_i zf_I)) vp_none sl_S nx_cutS)) vf_whole_of (fzl_one (fz_z zf_S)) xt ) o_neg zf_I nx_p1) vg_n (fun top'2 => (vs_one (vs_ifP (vt_z (vz_2 (v := N.ok (decide (top'2 = 0))) vz_var vz_i o_eqI nx_p2)) (vs_stop (vs_raise xt)) (vs_doc (vs_end ent_id)))))) (vs_one (vs_asg (ve_call (v := (N.bind (N.ix parts' 0) fun x96 => (n_whole_of x96))) (va_one (ve_z (vz_2 (v := (N.ix parts' 0)) vz_var vz_i o_ix nx_ix) zf_S)) vf_whole_of (fzl_one (fz_z zf_S)) xt ) vg_n (fun top'3 => (vs_end ent_id)))) (fun s97 => (vs_ifP (vt_z (vz_2 (v := N.ok (decide (((parts').length : Int) = 1))) (vz_call (v := N.ok ((parts').length : Int)) (vza_one vz_var) c_len nx_p1 ) vz_i o_eqI nx_p2)) (vs_stop (vs_retP (ve_tup (va_cons (u := N.ok (s97, 1)) (ve_varF zf_I) (va_one (ve_z vz_i zf_I))) (fzl_cons (fz_z zf_I) (fzl_one (fz_z zf_I))) (len_cons len_one)) (fun a => a) (fun a d τ h s => h))) (vs_doc (vs_asg (ve_call (v := (N.bind (N.ix parts' 1) fun x98 => (n_whole_of x98))) (va_one (ve_z (vz_2 (v := (N.ix parts' 1)) vz_var vz_i o_ix nx_ix) zf_S)) vf_whole_of (fzl_one (fz_z zf_S)) xt ) vg_n (fun bottom' => (vs_if (vt_or (vt_z (vz_2 (v := N.ok (decide (bottom' < 2))) vz_var vz_i o_lt nx_p2)) (vt_e (ve_2 (v := (N.bind (n_fraction s97 bottom') fun x100 => (N.gb (gNe (D.tup [(D.int x100.1), (D.int x100.2)]) (D.tup [(D.int s97), (D.int bottom')]))))) (ve_call (v := (n_fraction s97 bottom')) (va_cons (u := N.ok (s97, bottom')) (ve_varF zf_I) (va_one (ve_varF zf_I))) vf_fraction (fzl_cons (fz_z zf_I) (fzl_one (fz_z zf_I))) xt ) (ve_tup (va_cons (u := N.ok (s97, bottom')) (ve_varF zf_I) (va_one (ve_varF zf_I))) (fzl_cons (fz_z zf_I) (fzl_one (fz_z zf_I))) (len_cons len_one)) (o_ne (fn_T (fnl_cons fn_I (fnl_one fn_I))) (fn_T (fnl_cons fn_I (fnl_one fn_I)))) zf_B nx_gb2)) ent_id) (vs_stop (vs_raise xt)) (vs_doc (vs_retP (ve_tup (va_cons (u := N.ok (s97, bottom')) (ve_varF zf_I) (va_one (ve_varF zf_I))) (fzl_cons (fz_z zf_I) (fzl_one (fz_z zf_I))) (len_cons len_one)) (fun a => a) (fun a d τ h s => h)))))))))))))))
@[irreducible] noncomputable def n__law_whole (found' : Int) : N Bool := NS.f (σ := Unit) (κ := Unit) (
N.s (N.and (N.ok true) (N.not (N.ok false))) fun x104 => NS.rt x104)
theorem vf__law_whole : VF f__law_whole (fun (a : Int) => n__law_whole a) (eOne eI) eB := by
  rintro found' ds h
  show SatC _ (n__law_whole found') _
  unfold n__law_whole
  exact satC_of (L := fun (_ : Unit) => []) (G' := fun (_ : Unit) => [.any]) (n := 1) (N := 1) (b := m__law_whole) rfl (inil_one _ _ h) rfl ((vs_ret (ve_and (ve_z (vz_call (v := N.ok true) (vza_cons (u := N.ok (found', ())) vz_var (vza_one vz_ty)) (c_isi (b := true) ty_I) nx_p1 ) zf_B) (ve_not (ve_z (vz_call (v := N.ok false) (vza_cons (u := N.ok (found', ())) vz_var (vza_one vz_ty)) (c_isi (b := false) ty_I) nx_p1 ) zf_B)) ent_id) (fun a => a) (fun a d τ h s => h)))
@[irreducible] noncomputable def n_written (a' : (Int × Int)) : N Str := NS.f (σ := Unit) (κ := Unit) (
if (decide (a'.2 = 1)) = true then
N.s (N.str a'.1) fun x110 => NS.rt x110
else
N.s (N.bind (N.bind (N.str a'.1) fun x111 => (N.sadd x111 ("/" : Str))) fun x112 => N.bind (N.str a'.2) fun x113 => (N.sadd x112 x113)) fun x114 => NS.rt x114)
theorem vf_written : VF f_written (fun (a : (Int × Int)) => n_written a) (eOne (eTu (eCons eI (eOne eI)))) eS := by
  rintro a' ds h
  show SatC _ (n_written a') _
  unfold n_written
  exact satC_of (L := fun (_ : Unit) => []) (G' := fun (_ : Unit) => [.any]) (n := 1) (N := 1) (b := m_written) rfl (inil_one _ _ h) rfl ((vs_ifP (vt_z (vz_2 (v := N.ok (decide (a'.2 = 1))) (vz_2 (v := N.ok a'.2) vz_var (vz_k (k := 1)) (o_ixT (pt_s pt_1)) nx_p2) vz_i o_eqI nx_p2)) (vs_stop (vs_ret (ve_c (v := (N.str a'.1)) (va_one (ve_z (vz_2 (v := N.ok a'.1) vz_var (vz_k (k := 0)) (o_ixT pt_0) nx_p2) zf_I)) c_str zf_S nx_str ) (fun a => a) (fun a d τ h s => h))) (vs_doc (vs_ret (ve_2 (v := (N.bind (N.bind (N.str a'.1) fun x111 => (N.sadd x111 ("/" : Str))) fun x112 => N.bind (N.str a'.2) fun x113 => (N.sadd x112 x113))) (ve_2 (v := (N.bind (N.str a'.1) fun x111 => (N.sadd x111 ("/" : Str)))) (ve_c (v := (N.str a'.1)) (va_one (ve_z (vz_2 (v := N.ok a'.1) vz_var (vz_k (k := 0)) (o_ixT pt_0) nx_p2) zf_I)) c_str zf_S nx_str ) (ve_z vz_s zf_S) o_sadd zf_S nx_sadd) (ve_c (v := (N.str a'.2)) (va_one (ve_z (vz_2 (v := N.ok a'.2) vz_var (vz_k (k := 1)) (o_ixT (pt_s pt_1)) nx_p2) zf_I)) c_str zf_S nx_str ) o_sadd zf_S nx_sadd) (fun a => a) (fun a d τ h s => h)))))
@[irreducible] noncomputable def n__law_no_number (way' : Int) (cell' : Int) (text' : Str) (top' : Int) (bottom' : Int) : N Str := NS.f (σ := Unit) (κ := Unit) (
N.s (N.bind (N.bind (N.mod cell' 999) fun x208 => N.ok (1 + x208)) fun x209 => (N.str x209)) fun small' =>
N.s (N.bind (N.sadd ("/" : Str) small') fun x229 => N.bind (N.sadd small' ("/" : Str)) fun x230 => N.ok [("" : Str), ("-" : Str), ("-0" : Str), ("/" : Str), ("--1" : Str), ("00" : Str), ("-/2" : Str), ("1//2" : Str), x229, x230]) fun odd' =>
N.s (N.bind (N.mod way' 4) fun x231 => N.ok (decide (x231 = 0))) fun b289 => if b289 = true then
N.s (N.bind (N.div cell' 19) fun x233 => N.bind (N.bind (N.slen text') fun x232 => N.ok (x232 + 1)) fun x234 => (N.mod x233 x234)) fun at' =>
N.s (N.bind (N.bind (N.cutS text' none (some at')) fun x236 => N.bind (N.bind (N.mod cell' 16) fun x235 => (N.six (" +.a^xE_,=\\'\"~!(" : Str) x235)) fun x237 => (N.sadd x236 x237)) fun x238 => N.bind (N.cutS text' (some at') none) fun x239 => (N.sadd x238 x239)) fun x240 => NS.rt x240
else
N.s (N.bind (N.mod way' 4) fun x241 => N.ok (decide (x241 = 1))) fun b288 => if b288 = true then
N.s (N.bind (N.mod cell' 10) fun x242 => (N.ix odd' x242)) fun x243 => NS.rt x243
else
N.s (N.bind (N.bind (N.div way' 4) fun x244 => (N.mod x244 4)) fun x245 => N.ok (decide (x245 = 0))) fun b287 => if b287 = true then
N.s (N.bind (N.bind (N.mod cell' 2) fun x246 => (N.ix [("0" : Str), ("-0" : Str)] x246)) fun x247 => N.bind (N.str (if top' < 0 then -top' else top')) fun x248 => (N.sadd x247 x248)) fun x249 => NS.rt x249
else
N.s (N.bind (N.bind (N.div way' 4) fun x250 => (N.mod x250 4)) fun x251 => N.ok (decide (x251 = 1))) fun b286 => if b286 = true then
N.s (N.bind (N.bind (N.str top') fun x252 => (N.sadd x252 ("/" : Str))) fun x264 => N.bind (N.bind (N.bind (N.sadd ("-" : Str) small') fun x260 => N.bind (N.sadd ("0" : Str) small') fun x261 => N.ok [("1" : Str), ("0" : Str), x260, x261]) fun x262 => N.bind (N.mod cell' 4) fun x263 => (N.ix x262 x263)) fun x265 => (N.sadd x264 x265)) fun x266 => NS.rt x266
else
N.s (N.bind (N.bind (N.div way' 4) fun x267 => (N.mod x267 4)) fun x268 => N.ok (decide (x268 = 2))) fun b285 => if b285 = true then
N.s (N.bind (N.bind (N.bind (N.bind (N.bind (N.mod cell' 7) fun x269 => N.ok (2 + x269)) fun x270 => (N.mul top' x270)) fun x271 => (N.str x271)) fun x272 => (N.sadd x272 ("/" : Str))) fun x276 => N.bind (N.bind (N.bind (N.bind (N.mod cell' 7) fun x273 => N.ok (2 + x273)) fun x274 => (N.mul bottom' x274)) fun x275 => (N.str x275)) fun x277 => (N.sadd x276 x277)) fun x278 => NS.rt x278
else
N.s (N.bind (N.bind (N.mod cell' 3) fun x279 => (N.ix [("" : Str), ("-" : Str), ("1/" : Str)] x279)) fun x282 => N.bind (N.bind (N.bind (N.mod cell' 1000000000000) fun x280 => N.ok (1000000000 + x280)) fun x281 => (N.str x281)) fun x283 => (N.sadd x282 x283)) fun x284 => NS.rt x284)
theorem vf__law_no_number : VF f__law_no_number (fun (a : (Int × Int × Str × Int × Int)) => n__law_no_number a.1 a.2.1 a.2.2.1 a.2.2.2.1 a.2.2.2.2) (eCons eI (eCons eI (eCons eS (eCons eI (eOne eI))))) eS := by
  rintro ⟨way', cell', text', top', bottom'⟩ ds h
  show SatC _ (n__law_no_number way' cell' text' top' bottom') _
  unfold n__law_no_number
  exact satC_of (L := fun (_ : Unit) => []) (G' := fun (_ : Unit) => [.any, .any, .any, .any, .any, .any, .any, .any]) (n := 5) (N := 8) (b := m__law_no_number) rfl ((inil_cons (inil_cons (inil_cons (inil_cons inil_one)))) _ _ h) rfl ((vs_asg (ve_c (v := (N.bind (N.bind (N.mod cell' 999) fun x208 => N.ok (1 + x208)) fun x209 => (N.str x209))) (va_one (ve_z (vz_2 (v := (N.bind (N.mod cell' 999) fun x208 => N.ok (1 + x208))) vz_i (vz_2 (v := (N.mod cell' 999)) vz_var vz_i o_mod nx_mod) o_add nx_p2) zf_I)) c_str zf_S nx_str ) vg_n (fun small' => (vs_asg (ve_lst (vl_cons (u := (N.bind (N.sadd ("/" : Str) small') fun x227 => N.bind (N.sadd small' ("/" : Str)) fun x228 => N.ok [("" : Str), ("-" : Str), ("-0" : Str), ("/" : Str), ("--1" : Str), ("00" : Str), ("-/2" : Str), ("1//2" : Str), x227, x228])) (ve_z vz_s zf_S) (vl_cons (u := (N.bind (N.sadd ("/" : Str) small') fun x225 => N.bind (N.sadd small' ("/" : Str)) fun x226 => N.ok [("-" : Str), ("-0" : Str), ("/" : Str), ("--1" : Str), ("00" : Str), ("-/2" : Str), ("1//2" : Str), x225, x226])) (ve_z vz_s zf_S) (vl_cons (u := (N.bind (N.sadd ("/" : Str) small') fun x223 => N.bind (N.sadd small' ("/" : Str)) fun x224 => N.ok [("-0" : Str), ("/" : Str), ("--1" : Str), ("00" : Str), ("-/2" : Str), ("1//2" : Str), x223, x224])) (ve_z vz_s zf_S) (vl_cons (u := (N.bind (N.sadd ("/" : Str) small') fun x221 => N.bind (N.sadd small' ("/" : Str)) fun x222 => N.ok [("/" : Str), ("--1" : Str), ("00" : Str), ("-/2" : Str), ("1//2" : Str), x221, x222])) (ve_z vz_s zf_S) (vl_cons (u := (N.bind (N.sadd ("/" : Str) small') fun x219 => N.bind (N.sadd small' ("/" : Str)) fun x220 => N.ok [("--1" : Str), ("00" : Str), ("-/2" : Str), ("1//2" : Str), x219, x220])) (ve_z vz_s zf_S) (vl_cons (u := (N.bind (N.sadd ("/" : Str) small') fun x217 => N.bind (N.sadd small' ("/" : Str)) fun x218 => N.ok [("00" : Str), ("-/2" : Str), ("1//2" : Str), x217, x218])) (ve_z vz_s zf_S) (vl_cons (u := (N.bind (N.sadd ("/" : Str) small') fun x215 => N.bind (N.sadd small' ("/" : Str)) fun x216 => N.ok [("-/2" : Str), ("1//2" : Str), x215, x216])) (ve_z vz_s zf_S) (vl_cons (u := (N.bind (N.sadd ("/" : Str) small') fun x213 => N.bind (N.sadd small' ("/" : Str)) fun x214 => N.ok [("1//2" : Str), x213, x214])) (ve_z vz_s zf_S) (vl_cons (u := (N.bind (N.sadd ("/" : Str) small') fun x211 => N.bind (N.sadd small' ("/" : Str)) fun x212 => N.ok [x211, x212])) (ve_z (vz_2 (v := (N.sadd ("/" : Str) small')) vz_s vz_var o_sadd nx_sadd) zf_S) (vl_cons (u := (N.bind (N.sadd small' ("/" : Str)) fun x210 => N.ok [x210])) (ve_z (vz_2 (v := (N.sadd small' ("/" : Str))) vz_var vz_s o_sadd nx_sadd) zf_S) vl_nil))))))))))) vg_n (fun odd' => (vs_if (vt_z (vz_2 (v := (N.bind (N.mod way' 4) fun x231 => N.ok (decide (x231 = 0)))) (vz_2 (v := (N.mod way' 4)) vz_var vz_i o_mod nx_mod) vz_i o_eqI nx_p2)) (vs_stop (vs_asg (ve_z (vz_2 (v := (N.bind (N.div cell' 19) fun x233 => N.bind (N.bind (N.slen text') fun x232 => N.ok (x232 + 1)) fun x234 => (N.mod x233 x234))) (vz_2 (v := (N.div cell' 19)) vz_var vz_i o_div nx_div) (vz_2 (v := (N.bind (N.slen text') fun x232 => N.ok (x232 + 1))) (vz_call (v := (N.slen text')) (vza_one vz_var) c_lenS nx_slen ) vz_i o_add nx_p2) o_mod nx_mod) zf_I) vg_n (fun at' => (vs_ret (ve_2 (v := (N.bind (N.bind (N.cutS text' none (some at')) fun x236 => N.bind (N.bind (N.mod cell' 16) fun x235 => (N.six (" +.a^xE_,=\\'\"~!(" : Str) x235)) fun x237 => (N.sadd x236 x237)) fun x238 => N.bind (N.cutS text' (some at') none) fun x239 => (N.sadd x238 x239))) (ve_2 (v := (N.bind (N.cutS text' none (some at')) fun x236 => N.bind (N.bind (N.mod cell' 16) fun x235 => (N.six (" +.a^xE_,=\\'\"~!(" : Str) x235)) fun x237 => (N.sadd x236 x237))) (ve_slice (w := (N.cutS text' none (some at'))) (ve_varF zf_S) (fz_z zf_S) vp_none (vp_some (ve_varF zf_I)) sl_S nx_cutS) (ve_z (vz_2 (v := (N.bind (N.mod cell' 16) fun x235 => (N.six (" +.a^xE_,=\\'\"~!(" : Str) x235))) vz_s (vz_2 (v := (N.mod cell' 16)) vz_var vz_i o_mod nx_mod) o_six nx_six) zf_S) o_sadd zf_S nx_sadd) (ve_slice (w := (N.cutS text' (some at') none)) (ve_varF zf_S) (fz_z zf_S) (vp_some (ve_varF zf_I)) vp_none sl_S nx_cutS) o_sadd zf_S nx_sadd) (fun a => a) (fun a d τ h s => h))))) (vs_doc (vs_if (vt_z (vz_2 (v := (N.bind (N.mod way' 4) fun x241 => N.ok (decide (x241 = 1)))) (vz_2 (v := (N.mod way' 4)) vz_var vz_i o_mod nx_mod) vz_i o_eqI nx_p2)) (vs_stop (vs_ret (ve_z (vz_2 (v := (N.bind (N.mod cell' 10) fun x242 => (N.ix odd' x242))) vz_var (vz_2 (v := (N.mod cell' 10)) vz_var vz_i o_mod nx_mod) o_ix nx_ix) zf_S) (fun a => a) (fun a d τ h s => h))) (vs_doc (vs_if (vt_z (vz_2 (v := (N.bind (N.bind (N.div way' 4) fun x244 => (N.mod x244 4)) fun x245 => N.ok (decide (x245 = 0)))) (vz_2 (v := (N.bind (N.div way' 4) fun x244 => (N.mod x244 4))) (vz_2 (v := (N.div way' 4)) vz_var vz_i o_div nx_div) vz_i o_mod nx_mod) vz_i o_eqI nx_p2)) (vs_stop (vs_ret (ve_2 (v := (N.bind (N.bind (N.mod cell' 2) fun x246 => (N.ix [("0" : Str), ("-0" : Str)] x246)) fun x247 => N.bind (N.str (if top' < 0 then -top' else top')) fun x248 => (N.sadd x247 x248))) (ve_2 (v := (N.bind (N.mod cell' 2) fun x246 => (N.ix [("0" : Str), ("-0" : Str)] x246))) (ve_lst (vl_cons (u := N.ok [("0" : Str), ("-0" : Str)]) (ve_z vz_s zf_S) (vl_cons (u := N.ok [("-0" : Str)]) (ve_z vz_s zf_S) vl_nil))) (ve_z (vz_2 (v := (N.mod cell' 2)) vz_var vz_i o_mod nx_mod) zf_I) o_ix zf_S nx_ix) (ve_c (v := (N.str (if top' < 0 then -top' else top'))) (va_one (ve_z (vz_call (v := N.ok (if top' < 0 then -top' else top')) (vza_one vz_var) c_abs nx_p1 ) zf_I)) c_str zf_S nx_str ) o_sadd zf_S nx_sadd) (fun a => a) (fun a d τ h s => h))) (vs_doc (vs_if (vt_z (vz_2 (v := (N.bind (N.bind (N.div way' 4) fun x250 => (N.mod x250 4)) fun x251 => N.ok (decide (x251 = 1)))) (vz_2 (v := (N.bind (N.div way' 4) fun x250 => (N.mod x250 4))) (vz_2 (v := (N.div way' 4)) vz_var vz_i o_div nx_div) vz_i o_mod nx_mod) vz_i o_eqI nx_p2)) (vs_stop (vs_ret (ve_2 (v := (N.bind (N.bind (N.str top') fun x252 => (N.sadd x252 ("/" : Str))) fun x264 => N.bind (N.bind (N.bind (N.sadd ("-" : Str) small') fun x260 => N.bind (N.sadd ("0" : Str) small') fun x261 => N.ok [("1" : Str), ("0" : Str), x260, x261]) fun x262 => N.bind (N.mod cell' 4) fun x263 => (N.ix x262 x263)) fun x265 => (N.sadd x264 x265))) (ve_2 (v := (N.bind (N.str top') fun x252 => (N.sadd x252 ("/" : Str)))) (ve_c (v := (N.str top')) (va_one (ve_varF zf_I)) c_str zf_S nx_str ) (ve_z vz_s zf_S) o_sadd zf_S nx_sadd) (ve_2 (v := (N.bind (N.bind (N.sadd ("-" : Str) small') fun x260 => N.bind (N.sadd ("0" : Str) small') fun x261 => N.ok [("1" : Str), ("0" : Str), x260, x261]) fun x262 => N.bind (N.mod cell' 4) fun x263 => (N.ix x262 x263))) (ve_lst (vl_cons (u := (N.bind (N.sadd ("-" : Str) small') fun x258 => N.bind (N.sadd ("0" : Str) small') fun x259 => N.ok [("1" : Str), ("0" : Str), x258, x259])) (ve_z vz_s zf_S) (vl_cons (u := (N.bind (N.sadd ("-" : Str) small') fun x256 => N.bind (N.sadd ("0" : Str) small') fun x257 => N.ok [("0" : Str), x256, x257])) (ve_z vz_s zf_S) (vl_cons (u := (N.bind (N.sadd ("-" : Str) small') fun x254 => N.bind (N.sadd ("0" : Str) small') fun x255 => N.ok [x254, x255])) (ve_z (vz_2 (v := (N.sadd ("-" : Str) small')) vz_s vz_var o_sadd nx_sadd) zf_S) (vl_cons (u := (N.bind (N.sadd ("0" : Str) small') fun x253 => N.ok [x253])) (ve_z (vz_2 (v := (N.sadd ("0" : Str) small')) vz_s vz_var o_sadd nx_sadd) zf_S) vl_nil))))) (ve_z (vz_2 (v := (N.mod cell' 4)) vz_var vz_i o_mod nx_mod) zf_I) o_ix zf_S nx_ix) o_sadd zf_S nx_sadd) (fun a => a) (fun a d τ h s => h))) (vs_doc (vs_if (vt_z (vz_2 (v := (N.bind (N.bind (N.div way' 4) fun x267 => (N.mod x267 4)) fun x268 => N.ok (decide (x268 = 2)))) (vz_2 (v := (N.bind (N.div way' 4) fun x267 => (N.mod x267 4))) (vz_2 (v := (N.div way' 4)) vz_var vz_i o_div nx_div) vz_i o_mod nx_mod) vz_i o_eqI nx_p2)) (vs_stop (vs_ret (ve_2 (v := (N.bind (N.bind (N.bind (N.bind (N.bind (N.mod cell' 7) fun x269 => N.ok (2 + x269)) fun x270 => (N.mul top' x270)) fun x271 => (N.str x271)) fun x272 => (N.sadd x272 ("/" : Str))) fun x276 => N.bind (N.bind (N.bind (N.bind (N.mod cell' 7) fun x273 => N.ok (2 + x273)) fun x274 => (N.mul bottom' x274)) fun x275 => (N.str x275)) fun x277 => (N.sadd x276 x277))) (ve_2 (v := (N.bind (N.bind (N.bind (N.bind (N.mod cell' 7) fun x269 => N.ok (2 + x269)) fun x270 => (N.mul top' x270)) fun x271 => (N.str x271)) fun x272 => (N.sadd x272 ("/" : Str)))) (ve_c (v := (N.bind (N.bind (N.bind (N.mod cell' 7) fun x269 => N.ok (2 + x269)) fun x270 => (N.mul top' x270)) fun x271 => (N.str x271))) (va_one (ve_z (vz_2 (v := (N.bind (N.bind (N.mod cell' 7) fun x269 => N.ok (2 + x269)) fun x270 => (N.mul top' x270))) vz_var (vz_2 (v := (N.bind (N.mod cell' 7) fun x269 => N.ok (2 + x269))) vz_i (vz_2 (v := (N.mod cell' 7)) vz_var vz_i o_mod nx_mod) o_add nx_p2) o_mul nx_mul) zf_I)) c_str zf_S nx_str ) (ve_z vz_s zf_S) o_sadd zf_S nx_sadd) (ve_c (v := (N.bind (N.bind (N.bind (N.mod cell' 7) fun x273 => N.ok (2 + x273)) fun x274 => (N.mul bottom' x274)) fun x275 => (N.str x275))) (va_one (ve_z (vz_2 (v := (N.bind (N.bind (N.mod cell' 7) fun x273 => N.ok (2 + x273)) fun x274 => (N.mul bottom' x274))) vz_var (vz_2 (v := (N.bind (N.mod cell' 7) fun x273 => N.ok (2 + x273))) vz_i (vz_2 (v := (N.mod cell' 7)) vz_var vz_i o_mod nx_mod) o_add nx_p2) o_mul nx_mul) zf_I)) c_str zf_S nx_str ) o_sadd zf_S nx_sadd) (fun a => a) (fun a d τ h s => h))) (vs_doc (vs_ret (ve_2 (v := (N.bind (N.bind (N.mod cell' 3) fun x279 => (N.ix [("" : Str), ("-" : Str), ("1/" : Str)] x279)) fun x282 => N.bind (N.bind (N.bind (N.mod cell' 1000000000000) fun x280 => N.ok (1000000000 + x280)) fun x281 => (N.str x281)) fun x283 => (N.sadd x282 x283))) (ve_2 (v := (N.bind (N.mod cell' 3) fun x279 => (N.ix [("" : Str), ("-" : Str), ("1/" : Str)] x279))) (ve_lst (vl_cons (u := N.ok [("" : Str), ("-" : Str), ("1/" : Str)]) (ve_z vz_s zf_S) (vl_cons (u := N.ok [("-" : Str), ("1/" : Str)]) (ve_z vz_s zf_S) (vl_cons (u := N.ok [("1/" : Str)]) (ve_z vz_s zf_S) vl_nil)))) (ve_z (vz_2 (v := (N.mod cell' 3)) vz_var vz_i o_mod nx_mod) zf_I) o_ix zf_S nx_ix) (ve_c (v := (N.bind (N.bind (N.mod cell' 1000000000000) fun x280 => N.ok (1000000000 + x280)) fun x281 => (N.str x281))) (va_one (ve_z (vz_2 (v := (N.bind (N.mod cell' 1000000000000) fun x280 => N.ok (1000000000 + x280))) (vz_cst (c := 1000000000) (fun _ => by rfl)) (vz_2 (v := (N.mod cell' 1000000000000)) vz_var (vz_cst (c := 1000000000000) (fun _ => by rfl)) o_mod nx_mod) o_add nx_p2) zf_I)) c_str zf_S nx_str ) o_sadd zf_S nx_sadd) (fun a => a) (fun a d τ h s => h)))))))))))))))))
@[irreducible] noncomputable def n__law_refused (word' : Str) : N Bool := NS.f (σ := Unit) (κ := Unit) (
NS.s (
NS.tr (
N.s (n_number_of word') fun _ =>
NS.nx false) sub_BoxError fun c297 =>
N.s (N.and (N.o (is_NoRow c297)) (N.and (N.o (is_ValueError c297)) (N.not (N.o (ho__law_other c297))))) fun heard'1 =>
NS.nx heard'1) fun s298 =>
NS.rt s298)
theorem vf__law_refused : VF f__law_refused (fun (a : Str) => n__law_refused a) (eOne eS) eB := by
  rintro word' ds h
  show SatC _ (n__law_refused word') _
  unfold n__law_refused
  exact satC_of (L := fun (_ : Unit) => []) (G' := fun (_ : Unit) => [.any, .any, .any]) (n := 1) (N := 3) (b := m__law_refused) rfl (inil_one _ _ h) rfl ((vs_asgP (ve_z vz_b zf_B) vg_n (vs_tryAs (i := 2) (GX := [.val eS word', .val eB false, .any]) (GS := fun (y : Bool) => [.val eS word', .val eB y, .any]) (GJ := fun (y : Bool) => [.val eS word', .val eB y, .any]) (Nat.le_of_ble_eq_true rfl) (vs_one (vs_drop (ve_call (v := (n_number_of word')) (va_one (ve_varF zf_S)) vf_number_of (fzl_one (fz_z zf_S)) (by exact xg (GX := [.val eS word', .val eB false, .any]) ent_id) ) (vs_end ent_id))) (fun c297 => (vs_one (vs_asg (ve_and ve_is (ve_and ve_is (ve_not ve_is) ent_id) ent_id) vg_n (fun heard'1 => (vs_end ent_id))))) (fun _ => ent_id) (fun _ => ent_id) xt (fun s298 => (vs_retP ve_mv (fun a => a) (fun a d τ h s => h))))))
@[irreducible] noncomputable def n_law (script' : (List Int)) : N Bool := NS.f (σ := Unit) (κ := Unit) (
N.s (N.bind (N.bind (n__law_cell_at script' 0) fun x306 => (N.mod x306 1999999999)) fun x307 => N.ok (x307 - 999999999)) fun top' =>
N.s (N.bind (N.bind (n__law_cell_at script' 1) fun x308 => (N.mod x308 999999999)) fun x309 => N.ok (1 + x309)) fun bottom' =>
NS.s (
N.s (N.bind (N.bind (n__law_cell_at script' 2) fun x310 => (N.mod x310 3)) fun x311 => N.ok (decide (x311 = 1))) fun b342 => if b342 = true then
NS.nx 1
else
NS.nx bottom') fun s312 =>
NS.s (
N.s (N.bind (N.bind (n__law_cell_at script' 2) fun x313 => (N.mod x313 3)) fun x314 => N.ok (decide (x314 = 2))) fun b341 => if b341 = true then
N.s (N.bind (N.mod top' 401) fun x317 => N.ok (x317 - 200)) fun top'2 =>
N.s (N.bind (N.mod s312 60) fun x318 => N.ok (1 + x318)) fun bottom'2 =>
NS.nx (top'2, bottom'2)
else
NS.nx (top', s312)) fun s319 =>
N.s (n__law_divisor (if s319.1 < 0 then -s319.1 else s319.1) s319.2) fun shared' =>
N.s (N.div s319.1 shared') fun top'3 =>
N.s (N.div s319.2 shared') fun bottom'3 =>
N.s (n__law_text top'3 bottom'3) fun text' =>
N.s (n_number_of text') fun found' =>
N.s (N.or (N.ok (!true)) (N.or (N.ok (!decide ((((1 + 1) : Nat) : Int) = 2))) (N.or (N.not (n__law_whole found'.1)) (N.not (n__law_whole found'.2))))) fun b340 => if b340 = true then
NS.rt false
else
N.s (N.or (N.gb (gNe (D.tup [(D.int found'.1), (D.int found'.2)]) (D.tup [(D.int top'3), (D.int bottom'3)]))) (N.bind (n_written (top'3, bottom'3)) fun x321 => (N.gb (gNe (D.str x321) (D.str text'))))) fun b339 => if b339 = true then
NS.rt false
else
N.s (N.bind (N.bind (n__law_cell_at script' 3) fun x322 => (N.mod x322 1000000000000000000000000000000000000000000000000000000000000)) fun x323 => N.ok (1 + x323)) fun far' =>
N.s (N.bind (N.bind (N.bind (N.bind (n__law_cell_at script' 4) fun x324 => (N.mod x324 2000000000000000000000000000000000000000000000000000000000000000000000000000000000000000000000000000000000000000000000000)) fun x325 => N.ok (x325 - 1000000000000000000000000000000000000000000000000000000000000000000000000000000000000000000000000000000000000000000000000)) fun x326 => (N.mul x326 far')) fun x327 => N.ok (x327 + 1)) fun great' =>
N.s (n_written (great', far')) fun heard' =>
N.s (N.or (N.ok (!true)) (N.bind (n__law_text great' far') fun x329 => (N.gb (gNe (D.str heard') (D.str x329))))) fun b338 => if b338 = true then
NS.rt false
else
N.s (N.bind (N.bind (N.bind (n__law_cell_at script' 5) fun x330 => (N.mod x330 16)) fun x331 => N.bind (n__law_cell_at script' 6) fun x332 => (n__law_no_number x331 x332 text' top'3 bottom'3)) fun x336 => (n__law_refused x336)) fun x337 => NS.rt x337)
theorem vf_law : VF f_law (fun (a : (List Int)) => n_law a) (eOne eCn) eB := by
  rintro script' ds h
  show SatC _ (n_law script') _
  unfold n_law
  exact satC_of (L := fun (_ : Unit) => []) (G' := fun (_ : Unit) => [.any, .any, .any, .any, .any, .any, .any, .any, .any]) (n := 1) (N := 9) (b := m_law) rfl (inil_one _ _ h) rfl ((vs_asg (ve_2 (v := (N.bind (N.bind (n__law_cell_at script' 0) fun x306 => (N.mod x306 1999999999)) fun x307 => N.ok (x307 - 999999999))) (ve_2 (v := (N.bind (n__law_cell_at script' 0) fun x306 => (N.mod x306 1999999999))) (ve_call (v := (n__law_cell_at script' 0)) (va_cons (u := N.ok (script', 0)) (ve_varF zf_C) (va_one (ve_z vz_i zf_I))) vf__law_cell_at (fzl_cons (fz_z zf_C) (fzl_one (fz_z zf_I))) xt ) (ve_z (vz_cst (c := 1999999999) (fun _ => by rfl)) zf_I) o_mod zf_I nx_mod) (ve_z (vz_cst (c := 999999999) (fun _ => by rfl)) zf_I) o_sub zf_I nx_p2) vg_n (fun top' => (vs_asg (ve_2 (v := (N.bind (N.bind (n__law_cell_at script' 1) fun x308 => (N.mod x308 999999999)) fun x309 => N.ok (1 + x309))) (ve_z vz_i zf_I) (ve_2 (v := (N.bind (n__law_cell_at script' 1) fun x308 => (N.mod x308 999999999))) (ve_call (v := (n__law_cell_at script' 1)) (va_cons (u := N.ok (script', 1)) (ve_varF zf_C) (va_one (ve_z vz_i zf_I))) vf__law_cell_at (fzl_cons (fz_z zf_C) (fzl_one (fz_z zf_I))) xt ) (ve_z (vz_cst (c := 999999999) (fun _ => by rfl)) zf_I) o_mod zf_I nx_mod) o_add zf_I nx_p2) vg_n (fun bottom' => (vs_ifJ (GJ := fun (y : Int) => [.val eCn script', .val eI top', .val eI y, .any, .any, .any, .any, .any, .any]) (vt_e (ve_2 (v := (N.bind (N.bind (n__law_cell_at script' 2) fun x310 => (N.mod x310 3)) fun x311 => N.ok (decide (x311 = 1)))) (ve_2 (v := (N.bind (n__law_cell_at script' 2) fun x310 => (N.mod x310 3))) (ve_call (v := (n__law_cell_at script' 2)) (va_cons (u := N.ok (script', 2)) (ve_varF zf_C) (va_one (ve_z vz_i zf_I))) vf__law_cell_at (fzl_cons (fz_z zf_C) (fzl_one (fz_z zf_I))) xt ) (ve_z vz_i zf_I) o_mod zf_I nx_mod) (ve_z vz_i zf_I) o_eqI zf_B nx_p2)) (vs_one (vs_asgP (ve_z vz_i zf_I) vg_n (vs_end ent_id))) (vs_end ent_id) (fun s312 => (vs_ifJ (GJ := fun (y : (Int × Int)) => [.val eCn script', .val eI y.1, .val eI y.2, .any, .any, .any, .any, .any, .any]) (vt_e (ve_2 (v := (N.bind (N.bind (n__law_cell_at script' 2) fun x313 => (N.mod x313 3)) fun x314 => N.ok (decide (x314 = 2)))) (ve_2 (v := (N.bind (n__law_cell_at script' 2) fun x313 => (N.mod x313 3))) (ve_call (v := (n__law_cell_at script' 2)) (va_cons (u := N.ok (script', 2)) (ve_varF zf_C) (va_one (ve_z vz_i zf_I))) vf__law_cell_at (fzl_cons (fz_z zf_C) (fzl_one (fz_z zf_I))) xt ) (ve_z vz_i zf_I) o_mod zf_I nx_mod) (ve_z vz_i zf_I) o_eqI zf_B nx_p2)) (vs_asg (ve_z (vz_2 (v := (N.bind (N.mod top' 401) fun x317 => N.ok (x317 - 200))) (vz_2 (v := (N.mod top' 401)) vz_var vz_i o_mod nx_mod) vz_i o_sub nx_p2) zf_I) vg_n (fun top'2 => (vs_one (vs_asg (ve_z (vz_2 (v := (N.bind (N.mod s312 60) fun x318 => N.ok (1 + x318))) vz_i (vz_2 (v := (N.mod s312 60)) vz_var vz_i o_mod nx_mod) o_add nx_p2) zf_I) vg_n (fun bottom'2 => (vs_end ent_id)))))) (vs_end ent_id) (fun s319 => (vs_asg (ve_call (v := (n__law_divisor (if s319.1 < 0 then -s319.1 else s319.1) s319.2)) (va_cons (u := N.ok ((if s319.1 < 0 then -s319.1 else s319.1), s319.2)) (ve_z (vz_call (v := N.ok (if s319.1 < 0 then -s319.1 else s319.1)) (vza_one vz_var) c_abs nx_p1 ) zf_I) (va_one (ve_varF zf_I))) vf__law_divisor (fzl_cons (fz_z zf_I) (fzl_one (fz_z zf_I))) xt ) vg_n (fun shared' => (vs_asg (ve_z (vz_2 (v := (N.div s319.1 shared')) vz_var vz_var o_div nx_div) zf_I) vg_n (fun top'3 => (vs_asg (ve_z (vz_2 (v := (N.div s319.2 shared')) vz_var vz_var o_div nx_div) zf_I) vg_n (fun bottom'3 => (vs_asg (ve_call (v := (n__law_text top'3 bottom'3)) (va_cons (u := N.ok (top'3, bottom'3)) (ve_varF zf_I) (va_one (ve_varF zf_I))) vf__law_text (fzl_cons (fz_z zf_I) (fzl_one (fz_z zf_I))) xt ) vg_n (fun text' => (vs_asg (ve_call (v := (n_number_of text')) (va_one (ve_varF zf_S)) vf_number_of (fzl_one (fz_z zf_S)) xt ) vg_n (fun found' => (vs_if (vt_or (vt_not (vt_z (vz_call (v := N.ok true) (vza_cons (u := N.ok (found', ())) vz_var (vza_one vz_ty)) (c_isi (b := true) ty_T) nx_p1 ))) (vt_or (vt_z (vz_2 (v := N.ok (!decide ((((1 + 1) : Nat) : Int) = 2))) (vz_call (v := N.ok (((1 + 1) : Nat) : Int)) (vza_one vz_var) (c_lenT (len_cons len_one)) nx_p1 ) vz_i o_neI nx_p2)) (vt_or (vt_not (vt_e (ve_call (v := (n__law_whole found'.1)) (va_one (ve_z (vz_2 (v := N.ok found'.1) vz_var (vz_k (k := 0)) (o_ixT pt_0) nx_p2) zf_I)) vf__law_whole (fzl_one (fz_z zf_I)) xt ))) (vt_not (vt_e (ve_call (v := (n__law_whole found'.2)) (va_one (ve_z (vz_2 (v := N.ok found'.2) vz_var (vz_k (k := 1)) (o_ixT (pt_s pt_1)) nx_p2) zf_I)) vf__law_whole (fzl_one (fz_z zf_I)) xt ))) ent_id) ent_id) ent_id) (vs_stop (vs_retP (ve_z vz_b zf_B) (fun a => a) (fun a d τ h s => h))) (vs_doc (vs_if (vt_or (vt_e (ve_2 (v := (N.gb (gNe (D.tup [(D.int found'.1), (D.int found'.2)]) (D.tup [(D.int top'3), (D.int bottom'3)])))) (ve_varF zf_T) (ve_tup (va_cons (u := N.ok (top'3, bottom'3)) (ve_varF zf_I) (va_one (ve_varF zf_I))) (fzl_cons (fz_z zf_I) (fzl_one (fz_z zf_I))) (len_cons len_one)) (o_ne (fn_T (fnl_cons fn_I (fnl_one fn_I))) (fn_T (fnl_cons fn_I (fnl_one fn_I)))) zf_B nx_gb2)) (vt_e (ve_2 (v := (N.bind (n_written (top'3, bottom'3)) fun x321 => (N.gb (gNe (D.str x321) (D.str text'))))) (ve_call (v := (n_written (top'3, bottom'3))) (va_one (ve_tup (va_cons (u := N.ok (top'3, bottom'3)) (ve_varF zf_I) (va_one (ve_varF zf_I))) (fzl_cons (fz_z zf_I) (fzl_one (fz_z zf_I))) (len_cons len_one))) vf_written (fzl_one (fz_z zf_T)) xt ) (ve_varF zf_S) (o_ne fn_S fn_S) zf_B nx_gb2)) ent_id) (vs_stop (vs_retP (ve_z vz_b zf_B) (fun a => a) (fun a d τ h s => h))) (vs_doc (vs_asg (ve_2 (v := (N.bind (N.bind (n__law_cell_at script' 3) fun x322 => (N.mod x322 1000000000000000000000000000000000000000000000000000000000000)) fun x323 => N.ok (1 + x323))) (ve_z vz_i zf_I) (ve_2 (v := (N.bind (n__law_cell_at script' 3) fun x322 => (N.mod x322 1000000000000000000000000000000000000000000000000000000000000))) (ve_call (v := (n__law_cell_at script' 3)) (va_cons (u := N.ok (script', 3)) (ve_varF zf_C) (va_one (ve_z vz_i zf_I))) vf__law_cell_at (fzl_cons (fz_z zf_C) (fzl_one (fz_z zf_I))) xt ) (ve_z (vz_cst (c := 1000000000000000000000000000000000000000000000000000000000000) (fun _ => by rfl)) zf_I) o_mod zf_I nx_mod) o_add zf_I nx_p2) vg_n (fun far' => (vs_asg (ve_2 (v := (N.bind (N.bind (N.bind (N.bind (n__law_cell_at script' 4) fun x324 => (N.mod x324 2000000000000000000000000000000000000000000000000000000000000000000000000000000000000000000000000000000000000000000000000)) fun x325 => N.ok (x325 - 1000000000000000000000000000000000000000000000000000000000000000000000000000000000000000000000000000000000000000000000000)) fun x326 => (N.mul x326 far')) fun x327 => N.ok (x327 + 1))) (ve_2 (v := (N.bind (N.bind (N.bind (n__law_cell_at script' 4) fun x324 => (N.mod x324 2000000000000000000000000000000000000000000000000000000000000000000000000000000000000000000000000000000000000000000000000)) fun x325 => N.ok (x325 - 1000000000000000000000000000000000000000000000000000000000000000000000000000000000000000000000000000000000000000000000000)) fun x326 => (N.mul x326 far'))) (ve_2 (v := (N.bind (N.bind (n__law_cell_at script' 4) fun x324 => (N.mod x324 2000000000000000000000000000000000000000000000000000000000000000000000000000000000000000000000000000000000000000000000000)) fun x325 => N.ok (x325 - 1000000000000000000000000000000000000000000000000000000000000000000000000000000000000000000000000000000000000000000000000))) (ve_2 (v := (N.bind (n__law_cell_at script' 4) fun x324 => (N.mod x324 2000000000000000000000000000000000000000000000000000000000000000000000000000000000000000000000000000000000000000000000000))) (ve_call (v := (n__law_cell_at script' 4)) (va_cons (u := N.ok (script', 4)) (ve_varF zf_C) (va_one (ve_z vz_i zf_I))) vf__law_cell_at (fzl_cons (fz_z zf_C) (fzl_one (fz_z zf_I))) xt ) (ve_z (vz_cst (c := 2000000000000000000000000000000000000000000000000000000000000000000000000000000000000000000000000000000000000000000000000) (fun _ => by rfl)) zf_I) o_mod zf_I nx_mod) (ve_z (vz_cst (c := 1000000000000000000000000000000000000000000000000000000000000000000000000000000000000000000000000000000000000000000000000) (fun _ => by rfl)) zf_I) o_sub zf_I nx_p2) (ve_varF zf_I) o_mul zf_I nx_mul) (ve_z vz_i zf_I) o_add zf_I nx_p2) vg_n (fun great' => (vs_asg (ve_call (v := (n_written (great', far'))) (va_one (ve_tup (va_cons (u := N.ok (great', far')) (ve_varF zf_I) (va_one (ve_varF zf_I))) (fzl_cons (fz_z zf_I) (fzl_one (fz_z zf_I))) (len_cons len_one))) vf_written (fzl_one (fz_z zf_T)) xt ) vg_n (fun heard' => (vs_if (vt_or (vt_not (vt_z (vz_call (v := N.ok true) (vza_cons (u := N.ok (heard', ())) vz_var (vza_one vz_ty)) (c_isi (b := true) ty_S) nx_p1 ))) (vt_e (ve_2 (v := (N.bind (n__law_text great' far') fun x329 => (N.gb (gNe (D.str heard') (D.str x329))))) (ve_varF zf_S) (ve_call (v := (n__law_text great' far')) (va_cons (u := N.ok (great', far')) (ve_varF zf_I) (va_one (ve_varF zf_I))) vf__law_text (fzl_cons (fz_z zf_I) (fzl_one (fz_z zf_I))) xt ) (o_ne fn_S fn_S) zf_B nx_gb2)) ent_id) (vs_stop (vs_retP (ve_z vz_b zf_B) (fun a => a) (fun a d τ h s => h))) (vs_doc (vs_ret (ve_call (v := (N.bind (N.bind (N.bind (n__law_cell_at script' 5) fun x330 => (N.mod x330 16)) fun x331 => N.bind (n__law_cell_at script' 6) fun x332 => (n__law_no_number x331 x332 text' top'3 bottom'3)) fun x336 => (n__law_refused x336))) (va_one (ve_call (v := (N.bind (N.bind (n__law_cell_at script' 5) fun x330 => (N.mod x330 16)) fun x331 => N.bind (n__law_cell_at script' 6) fun x332 => (n__law_no_number x331 x332 text' top'3 bottom'3))) (va_cons (u := (N.bind (N.bind (n__law_cell_at script' 5) fun x330 => (N.mod x330 16)) fun x334 => N.bind (n__law_cell_at script' 6) fun x335 => N.ok (x334, x335, text', top'3, bottom'3))) (ve_2 (v := (N.bind (n__law_cell_at script' 5) fun x330 => (N.mod x330 16))) (ve_call (v := (n__law_cell_at script' 5)) (va_cons (u := N.ok (script', 5)) (ve_varF zf_C) (va_one (ve_z vz_i zf_I))) vf__law_cell_at (fzl_cons (fz_z zf_C) (fzl_one (fz_z zf_I))) xt ) (ve_z vz_i zf_I) o_mod zf_I nx_mod) (va_cons (u := (N.bind (n__law_cell_at script' 6) fun x333 => N.ok (x333, text', top'3, bottom'3))) (ve_call (v := (n__law_cell_at script' 6)) (va_cons (u := N.ok (script', 6)) (ve_varF zf_C) (va_one (ve_z vz_i zf_I))) vf__law_cell_at (fzl_cons (fz_z zf_C) (fzl_one (fz_z zf_I))) xt ) (va_cons (u := N.ok (text', top'3, bottom'3)) (ve_varF zf_S) (va_cons (u := N.ok (top'3, bottom'3)) (ve_varF zf_I) (va_one (ve_varF zf_I)))))) vf__law_no_number (fzl_cons (fz_z zf_I) (fzl_cons (fz_z zf_I) (fzl_cons (fz_z zf_S) (fzl_cons (fz_z zf_I) (fzl_one (fz_z zf_I)))))) xt )) vf__law_refused (fzl_one (fz_z zf_S)) xt ) (fun a => a) (fun a d τ h s => h)))))))))))))))))))))))))))))))))
end Lw
namespace Lw
open Bn
namespace Q
open SX (S S_len S_cat S_beq_eq)
open PySem.NumText (AllDigits digitsVal)
theorem f_ok {σ κ ρ : Type} (r : ρ) : NS.f (NS.rt r : NS σ κ ρ) = .ok r := rfl
theorem f_ex {σ κ ρ : Type} (c : PySem.Str) : NS.f (NS.ex c : NS σ κ ρ) = (.ex c : N ρ) := rfl
theorem sok {a : List Nat} (h : ∀ c ∈ a, c < 1114112) : PySem.PyData.strOk (S a) = true := by
  show (S a).cps.all _ = true
  rw [← Array.all_toList]
  exact List.all_eq_true.mpr fun c hc => decide_eq_true (h c hc)
theorem eq_S {a b : List Nat} (h : ∀ c ∈ a, c < 1114112) (k : ∀ c ∈ b, c < 1114112) : N.gb (gEq (.str (S a)) (.str (S b))) = .ok (decide (a = b)) := by
  rw [vEqS (sok h) (sok k), S_beq_eq]; unfold N.gb; rfl
theorem ne_S {a b : List Nat} (h : ∀ c ∈ a, c < 1114112) (k : ∀ c ∈ b, c < 1114112) : N.gb (gNe (.str (S a)) (.str (S b))) = .ok (!decide (a = b)) := by
  rw [vNeS (sok h) (sok k), S_beq_eq]; unfold N.gb; rfl
theorem slen_S {a : List Nat} (h : a.length ≤ 1000000) : N.slen (S a) = .ok (a.length : Int) := by
  unfold N.slen; rw [S_len, if_pos h]
theorem sin_S (c : Nat) (b : List Nat) : N.sin (S [c]) (S b) = .ok (decide (c ∈ b)) := by unfold N.sin; rfl
theorem signs_S (a : List Nat) : signs (S a) = a.map fun c => S [c] := rfl
theorem six_S {a : List Nat} {k c : Nat} (h : a.length ≤ 1000000) (e : a[k]? = some c) : N.six (S a) (k : Int) = .ok (S [c]) := by
  unfold N.six
  rw [S_len, if_pos h]
  show N.o ((L2.atI a (k : Int)).map _) = _
  rw [show L2.atI a (k : Int) = a[k]? from atI_of rfl, e]; rfl
theorem cut_to {a : List Nat} {i : Int} (hl : a.length ≤ 1000000) (h : 0 ≤ i) : N.cutS (S a) none (some i) = .ok (S (a.take i.toNat)) := by
  unfold N.cutS; rw [S_len, if_pos hl, C8.cutS_slice, SX.slice_to h]
theorem cut_from {a : List Nat} {i : Int} (hl : a.length ≤ 1000000) (h : 0 ≤ i) : N.cutS (S a) (some i) none = .ok (S (a.drop i.toNat)) := by
  unfold N.cutS; rw [S_len, if_pos hl, C8.cutS_slice, SX.slice_from h]
theorem sadd_S {a b : List Nat} (h : a.length + b.length ≤ 1000000) : N.sadd (S a) (S b) = .ok (S (a ++ b)) := by
  unfold N.sadd; rw [S_len, S_len, if_pos h, S_cat]
theorem split_slash {a : List Nat} (h : a.length ≤ 1000000) : N.split (S a) (S [47]) = .ok ((TL.spl [47] 0 [] a).map S) := by
  unfold N.split
  rw [S_len, S_len, if_pos ⟨by decide, h⟩, SX.split_S (by decide) (by decide)]
theorem forN_ex {α ρ κ : Type} {b : α → Unit → NS Unit Unit ρ} {q : α → Bool} {c : PySem.Str} : ∀ {xs : List α}, (∀ x ∈ xs, b x () = if q x = true then .nx () else .ex c) → (forN b xs () : NS Unit κ ρ) = if xs.all q = true then .nx () else .ex c
  | [], _ => rfl
  | x :: xs, h => by
    rw [List.all_cons]
    unfold forN
    rw [h x List.mem_cons_self]
    cases q x with
    | false => rfl
    | true =>
      rw [if_pos rfl, Bool.true_and]
      exact forN_ex fun y hy => h y (List.mem_cons_of_mem _ hy)
theorem forN_rt {α ρ κ : Type} {b : α → Unit → NS Unit Unit ρ} {q : α → Bool} {r : ρ} : ∀ {xs : List α}, (∀ x ∈ xs, b x () = if q x = true then .nx () else .rt r) → (forN b xs () : NS Unit κ ρ) = if xs.all q = true then .nx () else .rt r
  | [], _ => rfl
  | x :: xs, h => by
    rw [List.all_cons]
    unfold forN
    rw [h x List.mem_cons_self]
    cases q x with
    | false => rfl
    | true =>
      rw [if_pos rfl, Bool.true_and]
      exact forN_rt fun y hy => h y (List.mem_cons_of_mem _ hy)
def digB (a : List Nat) : Bool := a.all fun c => decide (48 ≤ c) && decide (c ≤ 57)
def wh (a : List Nat) : Option Nat := if a = [] ∨ 9 < a.length then none else if digB a = false then none else if a.head? = some 48 ∧ 1 < a.length then none else some (digitsVal a)
theorem mem_fig (c : Nat) : (c ∈ [48, 49, 50, 51, 52, 53, 54, 55, 56, 57]) ↔ 48 ≤ c ∧ c ≤ 57 := by
  simp only [List.mem_cons, List.not_mem_nil, or_false]; omega
theorem all_map_S {q : PySem.Str → Bool} {p : Nat → Bool} (h : ∀ c, q (S [c]) = p c) (a : List Nat) : (a.map fun c => S [c]).all q = a.all p := by
  rw [List.all_map]; congr 1; funext c; exact h c
def figB (x : PySem.Str) : Bool := match x.cps.toList with
  | [c] => decide (48 ≤ c) && decide (c ≤ 57)
  | _ => false
theorem lit_nil : ("" : PySem.Str) = S [] := rfl
theorem lit_fig : ("0123456789" : PySem.Str) = S [48, 49, 50, 51, 52, 53, 54, 55, 56, 57] := rfl
theorem lit_0 : ("0" : PySem.Str) = S [48] := rfl
theorem whole_ok {a : List Nat} (ok : ∀ c ∈ a, c < 1114112) (hl : a.length ≤ 1000000) : n_whole_of (S a) = match wh a with | some n => .ok (n : Int) | none => .ex "NoRow" := by
  unfold n_whole_of wh
  rw [lit_nil, eq_S ok (fun _ h => by cases h), slen_S hl]
  simp only [N.or, N.bind_ok, N.s_ok]
  by_cases c1 : a = [] ∨ 9 < a.length
  · rw [if_pos c1]
    rcases c1 with c1 | c1
    · rw [decide_eq_true c1]; rfl
    · by_cases c2 : a = []
      · rw [decide_eq_true c2]; rfl
      · rw [decide_eq_false c2, if_neg (by decide), N.s_ok, decide_eq_true (show (9 : Int) < (a.length : Int) by omega)]; rfl
  · rw [if_neg c1]
    have c2 : ¬ a = [] := fun h => c1 (.inl h)
    have c3 : ¬ 9 < a.length := fun h => c1 (.inr h)
    rw [decide_eq_false c2, if_neg (by decide), N.s_ok, decide_eq_false (show ¬ (9 : Int) < (a.length : Int) by omega), if_neg (by decide), signs_S]
    rw [forN_ex (q := figB) (c := "NoRow") (fun x hx => ?_)]
    · rw [all_map_S (p := fun c => decide (48 ≤ c) && decide (c ≤ 57)) (fun c => rfl)]
      show NS.f (NS.s (if digB a = true then _ else _) _) = _
      cases e : digB a with
      | false => rfl
      | true =>
        rw [if_pos rfl, if_neg (by decide)]
        show NS.f _ = _
        obtain ⟨c, r, rfl⟩ : ∃ c r, a = c :: r := by cases a with | nil => exact absurd rfl c2 | cons c r => exact ⟨c, r, rfl⟩
        rw [show ((0 : Int)) = ((0 : Nat) : Int) from rfl, six_S (k := 0) (c := c) hl rfl, N.bind_ok, lit_0, eq_S (fun d hd => by rw [List.mem_singleton.mp hd]; exact ok c List.mem_cons_self) (fun d hd => by rw [List.mem_singleton.mp hd]; decide)]
        have hint : N.int (S (c :: r)) = .ok ((digitsVal (c :: r) : Nat) : Int) := by
          unfold N.int
          rw [S_len, if_pos (by omega), SX.int_S e (List.cons_ne_nil _ _) (by omega)]; rfl
        simp only [N.and, N.bind_ok, hint, N.s_ok]
        by_cases h0 : c = 48
        · subst h0
          rw [decide_eq_true rfl, if_pos rfl, N.s_ok]
          by_cases h1 : 1 < (48 :: r).length
          · rw [decide_eq_true (show (1 : Int) < ((48 :: r).length : Int) by omega), if_pos rfl, if_pos ⟨rfl, h1⟩]; rfl
          · rw [decide_eq_false (show ¬ (1 : Int) < ((48 :: r).length : Int) by omega), if_neg (by decide), if_neg (fun h => h1 h.2)]; rfl
        · rw [decide_eq_false (fun h => h0 (List.cons.inj h).1), if_neg (by decide), N.s_ok, if_neg (by decide), if_neg (fun h => h0 (Option.some.inj h.1))]; rfl
    · obtain ⟨c, hc, rfl⟩ := List.mem_map.mp hx
      rw [lit_fig, sin_S]
      simp only [N.not, N.bind_ok, N.s_ok]
      by_cases h : 48 ≤ c ∧ c ≤ 57
      · rw [decide_eq_true ((mem_fig c).mpr h), if_neg (by decide), if_pos (by show (decide (48 ≤ c) && decide (c ≤ 57)) = true; rw [decide_eq_true h.1, decide_eq_true h.2]; rfl)]
      · rw [decide_eq_false (fun q => h ((mem_fig c).mp q)), if_pos (by decide), if_neg (by
          show ¬ (decide (48 ≤ c) && decide (c ≤ 57)) = true
          intro q; rw [Bool.and_eq_true] at q; exact h ⟨of_decide_eq_true q.1, of_decide_eq_true q.2⟩)]
end Q
end Lw
namespace Lw
open Bn
namespace Q
open SX (S S_len S_cat S_beq_eq)
open PySem.NumText (AllDigits digitsVal)
theorem euclidN {κ ρ : Type} : ∀ (m n a b : Nat), b < 2 ^ m → 2 * m + 1 ≤ n → (whileN (fun s : Int × Int => N.ok (decide (0 < s.2))) (fun s => N.s (N.mod s.1 s.2) fun r => NS.nx (s.2, r)) n ((a : Int), (b : Int)) : NS (Int × Int) κ ρ) = .nx (((Nat.gcd a b : Nat) : Int), 0)
  | 0, n, a, b, hb, hn => by
    obtain ⟨n, rfl⟩ : ∃ k, n = k + 1 := ⟨n - 1, by omega⟩
    have : b = 0 := by simpa using hb
    subst this
    rw [Nat.gcd_zero_right]; exact whileN_end rfl
  | m + 1, n, a, b, hb, hn => by
    by_cases b0 : b = 0
    · subst b0
      obtain ⟨n, rfl⟩ : ∃ k, n = k + 1 := ⟨n - 1, by omega⟩
      rw [Nat.gcd_zero_right]; exact whileN_end rfl
    · have step : ∀ (n a b : Nat), b ≠ 0 → (whileN (fun s : Int × Int => N.ok (decide (0 < s.2))) (fun s => N.s (N.mod s.1 s.2) fun r => NS.nx (s.2, r)) (n + 1) ((a : Int), (b : Int)) : NS (Int × Int) κ ρ) = whileN (fun s : Int × Int => N.ok (decide (0 < s.2))) (fun s => N.s (N.mod s.1 s.2) fun r => NS.nx (s.2, r)) n ((b : Int), ((a % b : Nat) : Int)) := fun n a b h => by
        refine whileN_step (congrArg N.ok (decide_eq_true (by show (0 : Int) < (b : Int); omega))) ?_
        show N.s (N.mod (a : Int) (b : Int)) _ = _
        rw [N.mod_ok (by omega), N.s_ok, ← Int.natCast_emod]
      obtain ⟨n, rfl⟩ : ∃ k, n = k + 2 := ⟨n - 2, by omega⟩
      rw [step (n + 1) a b b0]
      by_cases r0 : a % b = 0
      · have : Nat.gcd a b = b := by rw [Nat.gcd_comm, Nat.gcd_rec, r0, Nat.gcd_zero_left]
        rw [r0, this]; exact whileN_end rfl
      · have hg : Nat.gcd (a % b) (b % (a % b)) = Nat.gcd a b := by
          rw [Nat.gcd_comm (a % b), ← Nat.gcd_rec (a % b) b, ← Nat.gcd_rec b a, Nat.gcd_comm]
        rw [step n b (a % b) r0, euclidN m n (a % b) (b % (a % b)) ?_ (by omega), hg]
        have h1 := Nat.mod_lt b (show 0 < a % b by omega)
        have h2 := Nat.mod_lt a (show 0 < b by omega)
        have h3 := Nat.div_add_mod b (a % b)
        have h4 : 1 ≤ b / (a % b) := (Nat.one_le_div_iff (by omega)).mpr (by omega)
        have h5 : a % b * 1 ≤ a % b * (b / (a % b)) := Nat.mul_le_mul_left _ h4
        rw [Nat.pow_succ] at hb
        omega
theorem fuel_big : 2 * 200 ^ 8 + 1 ≤ fuelN := by unfold fuelN; decide
theorem abs_n (a : Int) : (if a < 0 then -a else a) = (a.natAbs : Int) := by split <;> omega
theorem divisor_ok {a b : Int} {m : Nat} (hm : m ≤ 100000) (hb : b.natAbs < 2 ^ m) : n_divisor a b = .ok ((Nat.gcd a.natAbs b.natAbs : Nat) : Int) := by
  have hf := fuel_big
  have e := fun κ ρ => euclidN (κ := κ) (ρ := ρ) m fuelN a.natAbs b.natAbs hb (by omega)
  unfold n_divisor
  simp only [N.s_ok, abs_n]
  rw [e]
  rfl
theorem fraction_ok {t b : Int} (h : 2 ≤ b) (hb : b.natAbs < 2 ^ 64) : n_fraction t b = .ok (t / ((Nat.gcd t.natAbs b.natAbs : Nat) : Int), b / ((Nat.gcd t.natAbs b.natAbs : Nat) : Int)) := by
  have g0 : 0 < Nat.gcd t.natAbs b.natAbs := Nat.gcd_pos_of_pos_right _ (by omega)
  have g1 : Nat.gcd t.natAbs b.natAbs ≤ b.natAbs := Nat.gcd_le_right _ (by omega)
  have g2 : ((Nat.gcd t.natAbs b.natAbs : Nat) : Int).natAbs < 2 ^ 64 := by rw [Int.natAbs_natCast]; omega
  have dv : ∀ i : Int, N.div i ((Nat.gcd t.natAbs b.natAbs : Nat) : Int) = .ok (i / ((Nat.gcd t.natAbs b.natAbs : Nat) : Int)) := fun i => N.div_ok (b := 64) (by omega) g2
  have dq := divisor_ok (a := t) (m := 64) (by decide) hb
  generalize ((Nat.gcd t.natAbs b.natAbs : Nat) : Int) = g at dv dq ⊢
  unfold n_fraction
  rw [decide_eq_false (by omega), if_neg (by decide), decide_eq_false (by omega), if_neg (by decide)]
  simp only [NS.s, dq, N.s_ok, dv, N.bind_ok]
  rfl
def topL (p : List Nat) : Option Int := if p.head? = some 45 then (match wh p.tail with | some n => if n = 0 then none else some (-(n : Int)) | none => none) else (match wh p with | some n => some (n : Int) | none => none)
def nuL : List (List Nat) → Option (Int × Int)
  | [p] => match topL p with | some t => some (t, 1) | none => none
  | [p, q] => match topL p, wh q with | some t, some b => if b < 2 ∨ Nat.gcd t.natAbs b ≠ 1 then none else some (t, (b : Int)) | _, _ => none
  | _ => none
def nu (a : List Nat) : Option (Int × Int) := nuL (TL.spl [47] 0 [] a)
def outN {α : Type} : Option α → N α
  | some r => .ok r
  | none => .ex "NoRow"
theorem spl_parts (S : List Nat) : ∀ (l : List Nat) (k : Nat) (acc : List Nat), TL.spl S k acc l ≠ [] ∧ ∀ p ∈ TL.spl S k acc l, (∀ c ∈ p, c ∈ acc ++ l) ∧ p.length ≤ (acc ++ l).length
  | [], k, acc => by
    rw [TL.spl_nil]
    refine ⟨by simp, fun p hp => ?_⟩
    rw [List.mem_singleton.mp hp, List.append_nil]
    exact ⟨fun c h => h, Nat.le_refl _⟩
  | c :: r, 0, acc => by
    unfold TL.spl
    by_cases h : TL.pre S (c :: r) = true
    · rw [if_pos h]
      refine ⟨by simp, fun p hp => ?_⟩
      rcases List.mem_cons.mp hp with rfl | hp
      · exact ⟨fun d hd => List.mem_append_left _ hd, by simp⟩
      · obtain ⟨h1, h2⟩ := (spl_parts S r (S.length - 1) []).2 p hp
        exact ⟨fun d hd => List.mem_append_right _ (List.mem_cons_of_mem _ (h1 d hd)), by simp at h2 ⊢; omega⟩
    · rw [if_neg h]
      obtain ⟨h1, h2⟩ := spl_parts S r 0 (acc ++ [c])
      rw [show acc ++ [c] ++ r = acc ++ c :: r by simp] at h2
      exact ⟨h1, h2⟩
  | c :: r, k + 1, acc => by
    unfold TL.spl
    obtain ⟨h1, h2⟩ := spl_parts S r k acc
    refine ⟨h1, fun p hp => ?_⟩
    obtain ⟨h3, h4⟩ := h2 p hp
    refine ⟨fun d hd => ?_, by simp at h4 ⊢; omega⟩
    rcases List.mem_append.mp (h3 d hd) with h | h
    · exact List.mem_append_left _ h
    · exact List.mem_append_right _ (List.mem_cons_of_mem _ h)
theorem lit_m : ("-" : PySem.Str) = S [45] := rfl
theorem lit_s : ("/" : PySem.Str) = S [47] := rfl
theorem head_take (p : List Nat) : (p.take 1 = [45]) ↔ p.head? = some 45 := by
  cases p with
  | nil => simp
  | cons c r => simp
theorem wh_dig {a : List Nat} {n : Nat} (h : wh a = some n) : digB a = true ∧ a ≠ [] ∧ a.length ≤ 9 ∧ n = digitsVal a := by
  unfold wh at h
  by_cases c1 : a = [] ∨ 9 < a.length
  · rw [if_pos c1] at h; cases h
  · rw [if_neg c1] at h
    cases e : digB a with
    | false => rw [e, if_pos rfl] at h; cases h
    | true =>
      rw [e, if_neg (by decide)] at h
      split at h
      · cases h
      · exact ⟨rfl, fun q => c1 (.inl q), Nat.le_of_not_lt fun q => c1 (.inr q), (Option.some.inj h).symm⟩
theorem val_lt : ∀ (l : List Nat) (x : Nat), (l.all fun c => decide (48 ≤ c) && decide (c ≤ 57)) = true → l.foldl (fun acc c => acc * 10 + (c - 48)) x < (x + 1) * 10 ^ l.length
  | [], x, _ => by simp
  | c :: l, x, h => by
    rw [List.all_cons, Bool.and_eq_true, Bool.and_eq_true] at h
    have h1 := of_decide_eq_true h.1.1
    have h2 := of_decide_eq_true h.1.2
    have := val_lt l (x * 10 + (c - 48)) h.2
    rw [List.foldl_cons, List.length_cons, Nat.pow_succ]
    refine Nat.lt_of_lt_of_le this ?_
    have : x * 10 + (c - 48) + 1 ≤ (x + 1) * 10 := by omega
    calc (x * 10 + (c - 48) + 1) * 10 ^ l.length ≤ ((x + 1) * 10) * 10 ^ l.length := Nat.mul_le_mul_right _ this
      _ = (x + 1) * (10 ^ l.length * 10) := by rw [Nat.mul_assoc, Nat.mul_comm 10]
theorem wh_lt {a : List Nat} {n : Nat} (h : wh a = some n) : n < 1000000000 := by
  obtain ⟨h1, h2, h3, rfl⟩ := wh_dig h
  have := val_lt a 0 h1
  have e : (10 : Nat) ^ a.length ≤ 10 ^ 9 := Nat.pow_le_pow_right (by decide) h3
  unfold digitsVal
  omega
theorem topN_ok {p : List Nat} (ok : ∀ c ∈ p, c < 1114112) (hl : p.length ≤ 1000000) {σ κ : Type} {ρ : Type} {ps : List PySem.Str} (h0 : ps[0]? = some (S p)) (k : Int → NS σ κ ρ) :
    (NS.s (N.s (N.bind (N.bind (N.ix ps 0) fun x290 => (N.cutS x290 none (some 1))) fun x291 => (N.gb (gEq (D.str x291) (D.str ("-" : PySem.Str))))) fun b305 => if b305 = true then
N.s (N.bind (N.bind (N.bind (N.ix ps 0) fun x296 => (N.cutS x296 (some 1) none)) fun x297 => (n_whole_of x297)) fun x298 => N.ok (-x298)) fun top'2 =>
if (decide (top'2 = 0)) = true then
NS.ex "NoRow"
else
NS.nx top'2
else
N.s (N.bind (N.ix ps 0) fun x299 => (n_whole_of x299)) fun top'3 =>
NS.nx top'3) k : NS σ κ ρ) = match topL p with | some t => k t | none => .ex "NoRow" := by
  rw [show (0 : Int) = ((0 : Nat) : Int) from rfl, N.ix_ok h0, N.bind_ok, cut_to hl (by decide), N.bind_ok, lit_m, show Int.toNat 1 = 1 from rfl, eq_S (fun c hc => ok c (List.mem_of_mem_take hc)) (fun d hd => by rw [List.mem_singleton.mp hd]; decide), N.s_ok]
  unfold topL
  by_cases c : p.head? = some 45
  · rw [if_pos c, decide_eq_true ((head_take p).mpr c), if_pos rfl, N.bind_ok, cut_from hl (by decide), N.bind_ok]
    show (NS.s (N.s (N.bind (n_whole_of (S (p.drop 1))) _) _) _) = _
    rw [List.drop_one, whole_ok (fun c hc => ok c (List.mem_of_mem_tail hc)) (by rw [List.length_tail]; omega)]
    cases e : wh p.tail with
    | none => rfl
    | some n =>
      dsimp only
      rw [N.bind_ok, N.s_ok]
      by_cases z : n = 0
      · subst z; rfl
      · rw [decide_eq_false (show ¬ (-(n : Int)) = ((0 : Nat) : Int) by omega), if_neg (by decide), if_neg z]; rfl
  · rw [if_neg c, decide_eq_false (fun q => c ((head_take p).mp q)), if_neg (by decide), N.bind_ok, whole_ok ok hl]
    cases e : wh p with
    | none => rfl
    | some n => rfl
theorem number_ok {a : List Nat} (ok : ∀ c ∈ a, c < 1114112) (hl : a.length ≤ 1000000) : n_number_of (S a) = outN (nu a) := by
  obtain ⟨ne, hp⟩ := spl_parts [47] a 0 []
  unfold n_number_of nu
  rw [lit_s, split_slash hl, N.s_ok]
  generalize TL.spl [47] 0 [] a = ps at ne hp ⊢
  match ps, ne, hp with
  | [], ne, _ => exact absurd rfl ne
  | [p], _, hp =>
    obtain ⟨h1, h2⟩ := hp p List.mem_cons_self
    rw [decide_eq_false (by simp), if_neg (by decide), topN_ok (p := p) (fun c hc => ok c (by simpa using h1 c hc)) (by simp at h2; omega) rfl]
    unfold nuL
    dsimp only
    cases topL p with
    | none => rfl
    | some t => rfl
  | [p, q], _, hp =>
    obtain ⟨h1, h2⟩ := hp p List.mem_cons_self
    obtain ⟨h3, h4⟩ := hp q (List.mem_cons_of_mem _ List.mem_cons_self)
    rw [decide_eq_false (by simp), if_neg (by decide), topN_ok (p := p) (fun c hc => ok c (by simpa using h1 c hc)) (by simp at h2; omega) rfl]
    unfold nuL
    dsimp only
    cases topL p with
    | none => rfl
    | some t =>
      dsimp only
      rw [decide_eq_false (by simp), if_neg (by decide), show (1 : Int) = ((1 : Nat) : Int) from rfl, N.ix_ok (xs := [p, q].map S) (k := 1) (x := S q) rfl, N.bind_ok, whole_ok (fun c hc => ok c (by simpa using h3 c hc)) (by simp at h4; omega)]
      cases e : wh q with
      | none => rfl
      | some b =>
        dsimp only
        have hb := wh_lt e
        rw [N.s_ok]
        simp only [N.or, N.bind_ok]
        by_cases z : b < 2
        · rw [decide_eq_true (show (b : Int) < 2 by omega), if_pos rfl, N.s_ok, if_pos rfl, if_pos (.inl z)]; rfl
        · rw [decide_eq_false (show ¬ (b : Int) < 2 by omega), if_neg (by decide), fraction_ok (by omega) (by omega), N.bind_ok, vNe2]
          rw [Int.natAbs_natCast]
          have g0 : 0 < Nat.gcd t.natAbs b := Nat.gcd_pos_of_pos_right _ (by omega)
          by_cases g1 : Nat.gcd t.natAbs b = 1
          · rw [if_neg (fun h => h.elim z fun h => h g1), g1]
            simp [N.gb, N.s_ok, outN, f_ok]
          · rw [if_pos (.inr g1)]
            have hne : ¬ (b : Int) / ((Nat.gcd t.natAbs b : Nat) : Int) = (b : Int) := by
              rw [← Int.natCast_ediv]
              intro q
              have q' : b / Nat.gcd t.natAbs b = b := by exact_mod_cast q
              have := Nat.div_lt_self (show 0 < b by omega) (show 1 < Nat.gcd t.natAbs b by omega)
              omega
            have e2 : ((b : Int) / ((Nat.gcd t.natAbs b : Nat) : Int) == (b : Int)) = false := by rw [beq_eq_false_iff_ne]; exact hne
            rw [e2]
            simp [N.gb, N.s_ok, outN, f_ex]
  | p :: q :: r :: l, _, _ =>
    rw [decide_eq_true (by simp; omega), if_pos rfl]; rfl
end Q
end Lw
namespace Lw
open Bn
namespace Q
open SX (S S_len S_cat S_beq_eq)
open PySem.NumText (AllDigits digitsVal)
def itx (i : Int) : List Nat := if i < 0 then 45 :: TL.numL i.natAbs else TL.numL i.natAbs
theorem str_itx (i : Int) : (toString i : PySem.Str) = S (itx i) := by
  cases i with
  | ofNat n =>
    have e : itx (Int.ofNat n) = TL.numL n := by unfold itx; rw [if_neg (by simp)]; rfl
    rw [e]; exact SX.num_S n
  | negSucc m =>
    have e : itx (Int.negSucc m) = 45 :: TL.numL (m + 1) := by unfold itx; rw [if_pos (Int.negSucc_lt_zero m)]; rfl
    rw [e]
    refine TL.ext_tl ?_
    show (PySem.Str.ofString (toString (Int.negSucc m))).cps.toList = 45 :: TL.numL (m + 1)
    have h := PySem.W.KIN.signs_num (m + 1)
    rw [PyProof.Rows.signs_ofString] at h ⊢
    rw [show toString (Int.negSucc m) = "-" ++ Nat.repr (m + 1) from rfl, String.toList_append, List.map_append]
    exact congrArg (fun l => 45 :: l) h
theorem nstr_ok {i : Int} (h : i.natAbs.log2 < 1920) : N.str i = .ok (S (itx i)) := by unfold N.str; rw [if_pos h, str_itx]
theorem itx_mem {i : Int} {c : Nat} (h : c ∈ itx i) : c = 45 ∨ 48 ≤ c ∧ c ≤ 57 := by
  unfold itx at h
  split at h
  · rcases List.mem_cons.mp h with h | h
    · exact .inl h
    · exact .inr (TL.numL_digits _ c h)
  · exact .inr (TL.numL_digits _ c h)
theorem dig_num (n : Nat) : digB (TL.numL n) = true := List.all_eq_true.mpr fun c hc => by
  have := TL.numL_digits n c hc
  rw [decide_eq_true this.1, decide_eq_true this.2]; rfl
theorem numL_head : ∀ n : Nat, 0 < n → (TL.numL n).head? ≠ some 48 := by
  intro n
  induction n using Nat.strongRecOn with
  | _ n ih =>
    intro h0
    by_cases h : n < 10
    · rw [TL.numL_lt h]; simp; omega
    · rw [TL.numL_step (by omega)]
      have q := ih (n / 10) (by omega) (by omega)
      have ne := TL.numL_ne (n / 10)
      revert q ne
      generalize TL.numL (n / 10) = l
      intro q ne
      cases l with
      | nil => exact absurd rfl ne
      | cons c r => exact q
theorem wh_num {n : Nat} (h : n < 1000000000) : wh (TL.numL n) = some n := by
  unfold wh
  have hl : (TL.numL n).length ≤ 9 := TL.numL_len (by decide) (by omega)
  rw [if_neg (fun q => q.elim (TL.numL_ne n) (by omega)), dig_num, if_neg (by decide), if_neg, TL.numL_val]
  rintro ⟨q1, q2⟩
  by_cases z : n = 0
  · subst z; rw [TL.numL_lt (by decide)] at q2; simp at q2
  · exact numL_head n (by omega) q1
theorem top_itx {i : Int} (h : i.natAbs < 1000000000) : topL (itx i) = some i := by
  unfold topL itx
  by_cases c : i < 0
  · rw [if_pos c, if_pos (show (45 :: TL.numL i.natAbs).head? = some 45 from rfl), List.tail_cons, wh_num h]
    dsimp only
    rw [if_neg (by omega)]
    exact congrArg some (by omega)
  · rw [if_neg c, if_neg, wh_num h]
    · exact congrArg some (by omega)
    · intro q
      have : (45 : Nat) ∈ TL.numL i.natAbs := List.mem_of_mem_head? q
      have := TL.numL_digits _ _ this
      omega
theorem slash_free {i : Int} : 47 ∉ itx i := fun h => by
  have := itx_mem h
  omega
theorem nu_int {i : Int} (h : i.natAbs < 1000000000) : nu (itx i) = some (i, 1) := by
  unfold nu
  rw [TL.spl_last1 slash_free, List.nil_append]
  unfold nuL
  dsimp only
  rw [top_itx h]
theorem nu_frac {t : Int} {b : Nat} (h : t.natAbs < 1000000000) (h2 : 2 ≤ b) (hb : b < 1000000000) (g : Nat.gcd t.natAbs b = 1) : nu (itx t ++ 47 :: itx (b : Int)) = some (t, (b : Int)) := by
  unfold nu
  rw [show itx t ++ 47 :: itx (b : Int) = itx t ++ ([47] ++ itx (b : Int)) from rfl, TL.spl_part1 slash_free, TL.spl_last1 slash_free]
  have e : itx (b : Int) = TL.numL b := by unfold itx; rw [if_neg (by omega)]; rfl
  rw [e, List.nil_append, List.nil_append]
  unfold nuL
  dsimp only
  rw [top_itx h, wh_num hb]
  dsimp only
  rw [if_neg (fun q => q.elim (by omega) fun q => q g)]
theorem itx_small {i : Int} {k : Nat} (hk : 0 < k) (h : i.natAbs < 10 ^ k) : (itx i).length ≤ k + 1 := by
  have := TL.numL_len hk h
  unfold itx
  split
  · simpa using this
  · omega
end Q
end Lw
namespace Lw
open Bn
namespace Q
open SX (S S_len S_cat S_beq_eq)
open PySem.NumText (AllDigits digitsVal)
theorem pick {α β : Type} {xs : List α} {f : α → β} {c : Int} {n : Int} (h : n = (xs.length : Int)) (h0 : 0 < n) : ∃ a ∈ xs, N.ix (xs.map f) (c % n) = .ok (f a) := by
  have r1 := Int.emod_nonneg c (show n ≠ 0 by omega)
  have r2 := Int.emod_lt_of_pos c h0
  generalize c % n = x at r1 r2
  have hx : x.toNat < xs.length := by omega
  exact ⟨xs[x.toNat], List.getElem_mem hx, N.ix_i r1 (by rw [List.getElem?_map, List.getElem?_eq_getElem hx]; rfl)⟩
theorem range_ok {n : Nat} (h : n ≤ 1000000) : N.range (n : Int) = .ok ((List.range n).map fun k : Nat => (k : Int)) := by
  unfold N.range
  rw [if_pos ⟨by have : (0 : Int) ≤ 2 ^ 62 := by decide
                 omega, by have : (2 : Int) ^ 62 = 4611686018427387904 := by decide
                           omega⟩, Int.toNat_natCast]
theorem NS_s_nx {σ κ ρ σ' : Type} (s : σ') (k : σ' → NS σ κ ρ) : (NS.s (NS.nx s : NS σ' κ ρ) k) = k s := rfl
theorem dvk {i j : Int} (h : 0 < j) (h2 : j.natAbs < 2 ^ 64 := by decide) : N.div i j = .ok (i / j) := N.div_ok h (b := 64) h2
theorem mdk {i j : Int} (h : 0 < j := by decide) : N.mod i j = .ok (i % j) := N.mod_ok h
theorem cell_any (sc : List Int) {k : Int} (h : 0 ≤ k) : ∃ c, n__law_cell_at sc k = .ok c := by
  unfold n__law_cell_at
  by_cases c : k < (sc.length : Int)
  · rw [decide_eq_true c, if_pos rfl]
    have hk : k.toNat < sc.length := by omega
    rw [N.ix_i h (List.getElem?_eq_getElem hk)]
    exact ⟨_, rfl⟩
  · rw [decide_eq_false c, if_neg (by decide)]
    exact ⟨0, rfl⟩
theorem nstr_small {i : Int} (h : i.natAbs < 2 ^ 64) : N.str i = .ok (S (itx i)) := nstr_ok (by
  by_cases z : i.natAbs = 0
  · rw [z]; decide
  · have := (Nat.log2_lt z).mpr h
    omega)
theorem itx_ok (i : Int) : ∀ c ∈ itx i, c < 1114112 := fun c hc => by
  have := itx_mem hc
  omega
theorem nu_one {a : List Nat} (h : 47 ∉ a) : nu a = nuL [a] := by
  unfold nu
  rw [TL.spl_last1 h, List.nil_append]
theorem nu_two {p q : List Nat} (h : 47 ∉ p) (k : 47 ∉ q) : nu (p ++ 47 :: q) = nuL [p, q] := by
  unfold nu
  rw [show p ++ 47 :: q = p ++ ([47] ++ q) from rfl, TL.spl_part1 h, TL.spl_last1 k, List.nil_append, List.nil_append]
theorem nuL_one {p : List Nat} : nuL [p] = match topL p with | some t => some (t, 1) | none => none := rfl
theorem nuL_two {p q : List Nat} : nuL [p, q] = match topL p, wh q with | some t, some b => if b < 2 ∨ Nat.gcd t.natAbs b ≠ 1 then none else some (t, (b : Int)) | _, _ => none := rfl
theorem nu_more {p q r : List Nat} (h : 47 ∉ p) (k : 47 ∉ q) : nu (p ++ 47 :: (q ++ 47 :: r)) = none := by
  unfold nu
  rw [show p ++ 47 :: (q ++ 47 :: r) = p ++ ([47] ++ (q ++ ([47] ++ r))) from rfl, TL.spl_part1 h, TL.spl_part1 k]
  have := (spl_parts [47] r 0 []).1
  cases e : TL.spl [47] 0 [] r with
  | nil => exact absurd e this
  | cons x y => rfl
theorem cut47 : ∀ a : List Nat, 47 ∉ a ∨ ∃ p q, a = p ++ 47 :: q ∧ 47 ∉ p
  | [] => .inl (by simp)
  | c :: r => by
    by_cases h : c = 47
    · exact .inr ⟨[], r, by rw [h]; rfl, by simp⟩
    · rcases cut47 r with k | ⟨p, q, e, k⟩
      · exact .inl fun z => (List.mem_cons.mp z).elim (fun e => h e.symm) k
      · exact .inr ⟨c :: p, q, by rw [e]; rfl, fun z => (List.mem_cons.mp z).elim (fun e => h e.symm) k⟩
theorem dig_mem {a : List Nat} (h : digB a = true) {c : Nat} (hc : c ∈ a) : 48 ≤ c ∧ c ≤ 57 := by
  have := List.all_eq_true.mp h c hc
  rw [Bool.and_eq_true] at this
  exact ⟨of_decide_eq_true this.1, of_decide_eq_true this.2⟩
theorem wh_chars {a : List Nat} {n : Nat} (h : wh a = some n) {c : Nat} (hc : c ∈ a) : 48 ≤ c ∧ c ≤ 57 := dig_mem (wh_dig h).1 hc
theorem top_chars {a : List Nat} {n : Int} (h : topL a = some n) {c : Nat} (hc : c ∈ a) : c = 45 ∨ 48 ≤ c ∧ c ≤ 57 := by
  unfold topL at h
  by_cases z : a.head? = some 45
  · rw [if_pos z] at h
    cases a with
    | nil => cases z
    | cons b r =>
      have hb : b = 45 := by injection z
      rcases List.mem_cons.mp hc with hc | hc
      · exact .inl (hc.trans hb)
      · cases e : wh r with
        | none => rw [List.tail_cons, e] at h; cases h
        | some m => exact .inr (wh_chars e hc)
  · rw [if_neg z] at h
    cases e : wh a with
    | none => rw [e] at h; cases h
    | some m => exact .inr (wh_chars e hc)
theorem nu_chars {a : List Nat} {r : Int × Int} (h : nu a = some r) {c : Nat} (hc : c ∈ a) : c = 45 ∨ c = 47 ∨ 48 ≤ c ∧ c ≤ 57 := by
  rcases cut47 a with k | ⟨p, q, rfl, k⟩
  · rw [nu_one k, nuL_one] at h
    cases e : topL a with
    | none => rw [e] at h; cases h
    | some t => rcases top_chars e hc with z | z
                · exact .inl z
                · exact .inr (.inr z)
  · rcases cut47 q with k2 | ⟨p2, q2, rfl, k2⟩
    · rw [nu_two k k2, nuL_two] at h
      cases e : topL p with
      | none => rw [e] at h; cases h
      | some t =>
        cases e2 : wh q with
        | none => rw [e, e2] at h; cases h
        | some b =>
          rcases List.mem_append.mp hc with hc | hc
          · rcases top_chars e hc with z | z
            · exact .inl z
            · exact .inr (.inr z)
          · rcases List.mem_cons.mp hc with hc | hc
            · exact .inr (.inl hc)
            · exact .inr (.inr (wh_chars e2 hc))
    · rw [nu_more k k2] at h; cases h
theorem nu_strange {a : List Nat} {c : Nat} (hc : c ∈ a) (h : ¬ (c = 45 ∨ c = 47 ∨ 48 ≤ c ∧ c ≤ 57)) : nu a = none := by
  cases e : nu a with
  | none => rfl
  | some r => exact absurd (nu_chars e hc) h
theorem wh_zero {d : List Nat} (h : d ≠ []) : wh (48 :: d) = none := by
  unfold wh
  have l : 1 < (48 :: d).length := by
    cases d with
    | nil => exact absurd rfl h
    | cons x y => simp
  split
  · rfl
  · split
    · rfl
    · rw [if_pos ⟨rfl, l⟩]
theorem wh_strange {d : List Nat} {c : Nat} (hc : c ∈ d) (h : ¬ (48 ≤ c ∧ c ≤ 57)) : wh d = none := by
  cases e : wh d with
  | none => rfl
  | some n => exact absurd (wh_chars e hc) h
theorem wh_big {n : Nat} (h : 1000000000 ≤ n) : wh (TL.numL n) = none := by
  cases e : wh (TL.numL n) with
  | none => rfl
  | some m =>
    have h1 := wh_lt e
    have h2 := (wh_dig e).2.2.2
    rw [TL.numL_val] at h2
    omega
theorem head_num (n : Nat) : (TL.numL n).head? ≠ some 45 := fun q => by
  have : (45 : Nat) ∈ TL.numL n := List.mem_of_mem_head? q
  have := TL.numL_digits _ _ this
  omega
theorem top_num (n : Nat) : topL (TL.numL n) = match wh (TL.numL n) with | some n => some (n : Int) | none => none := by
  unfold topL
  rw [if_neg (head_num n)]
  all_goals (cases wh (TL.numL n) <;> rfl)
theorem top_minus (d : List Nat) : topL (45 :: d) = match wh d with | some n => if n = 0 then none else some (-(n : Int)) | none => none := by
  unfold topL
  rw [if_pos (show (45 :: d).head? = some 45 from rfl), List.tail_cons]
  all_goals (cases wh d <;> rfl)
theorem top_big {i : Int} (h : 1000000000 ≤ i.natAbs) : topL (itx i) = none := by
  unfold itx
  split
  · rw [top_minus, wh_big h]
  · rw [top_num, wh_big h]
theorem itx_nat (n : Nat) : itx (n : Int) = TL.numL n := by unfold itx; rw [if_neg (by omega)]; rfl
theorem num_free {n s : Nat} (h : s < 48 ∨ 57 < s) : s ∉ TL.numL n := TL.numL_free h
theorem nu_top {p q : List Nat} (h : 47 ∉ p) (k : 47 ∉ q) (e : topL p = none) : nu (p ++ 47 :: q) = none := by
  rw [nu_two h k, nuL_two]; rw [e]
theorem nu_bot {p q : List Nat} (h : 47 ∉ p) (k : 47 ∉ q) (e : wh q = none) : nu (p ++ 47 :: q) = none := by
  rw [nu_two h k, nuL_two]
  cases topL p <;> rw [e]
theorem nu_low {p q : List Nat} {b : Nat} (h : 47 ∉ p) (k : 47 ∉ q) (e : wh q = some b) (hb : b < 2) : nu (p ++ 47 :: q) = none := by
  rw [nu_two h k, nuL_two]
  cases topL p with
  | none => rw [e]
  | some t => rw [e]; exact if_pos (.inl hb)
theorem nu_shared {t : Int} {b k : Nat} (hk : 2 ≤ k) : nu (itx (t * (k : Int)) ++ 47 :: itx ((b : Int) * (k : Int))) = none := by
  have eb : (b : Int) * (k : Int) = ((b * k : Nat) : Int) := by push_cast; rfl
  rw [eb, itx_nat]
  have s1 : 47 ∉ itx (t * (k : Int)) := slash_free
  have s2 : 47 ∉ TL.numL (b * k) := num_free (.inl (by decide))
  by_cases h1 : (t * (k : Int)).natAbs < 1000000000
  · by_cases h2 : b * k < 1000000000
    · rw [nu_two s1 s2]
      rw [nuL_two, top_itx h1, wh_num h2]
      dsimp only
      refine if_pos (.inr fun g => ?_)
      have d1 : k ∣ (t * (k : Int)).natAbs := by rw [Int.natAbs_mul, Int.natAbs_natCast]; exact Nat.dvd_mul_left _ _
      have d := Nat.dvd_gcd d1 (Nat.dvd_mul_left k b)
      rw [g] at d
      have := Nat.le_of_dvd (by decide) d
      omega
    · exact nu_bot s1 s2 (wh_big (by omega))
  · exact nu_top s1 s2 (top_big (by omega))
theorem refused_ok {a : List Nat} (ok : ∀ c ∈ a, c < 1114112) (hl : a.length ≤ 1000000) (h : nu a = none) : n__law_refused (S a) = .ok true := by
  unfold n__law_refused
  rw [number_ok ok hl, h]
  rfl
def strL : List Nat := [32, 43, 46, 97, 94, 120, 69, 95, 44, 61, 92, 39, 34, 126, 33, 40]
theorem lit_str : (" +.a^xE_,=\\'\"~!(" : PySem.Str) = S strL := rfl
theorem str_six (c : Int) : ∃ x ∈ strL, N.six (S strL) (c % 16) = .ok (S [x]) := by
  have r1 := Int.emod_nonneg c (show (16 : Int) ≠ 0 by decide)
  have r2 := Int.emod_lt_of_pos c (show (0 : Int) < 16 by decide)
  generalize c % 16 = x at r1 r2
  obtain ⟨n, rfl⟩ : ∃ n : Nat, x = (n : Int) := ⟨x.toNat, by omega⟩
  have hn : n < strL.length := by show n < 16; omega
  exact ⟨strL[n], List.getElem_mem hn, six_S (by decide) (List.getElem?_eq_getElem hn)⟩
theorem str_bad : ∀ x ∈ strL, ¬ (x = 45 ∨ x = 47 ∨ 48 ≤ x ∧ x ≤ 57) ∧ x < 1114112 := by decide
structure Bad (a : List Nat) : Prop where
  ok : ∀ c ∈ a, c < 1114112
  len : a.length ≤ 1000
  no : nu a = none
theorem num_ok (n : Nat) : ∀ c ∈ TL.numL n, c < 1114112 := fun c hc => by have := TL.numL_digits _ _ hc; omega
theorem pick2 {α : Type} {xs : List α} {p : α → Prop} (h : ∀ x ∈ xs, p x) {n : Int} (c : Int) (hn : n = (xs.length : Int)) (h0 : 0 < n) : ∃ x, N.ix xs (c % n) = .ok x ∧ p x := by
  obtain ⟨x, hx, e⟩ := pick (xs := xs) (f := fun z : α => z) (c := c) hn h0
  rw [List.map_id'] at e
  exact ⟨x, e, h x hx⟩
def BadS (z : PySem.Str) : Prop := ∃ a, z = S a ∧ Bad a
theorem bad_cst {a : List Nat} (h : (decide (∀ c ∈ a, c < 1114112) && decide (a.length ≤ 1000) && decide (nu a = none)) = true) : BadS (S a) := by
  rw [Bool.and_eq_true, Bool.and_eq_true] at h
  exact ⟨a, rfl, of_decide_eq_true h.1.1, of_decide_eq_true h.1.2, of_decide_eq_true h.2⟩
theorem app_ok {a b : List Nat} (h : ∀ c ∈ a, c < 1114112) (k : ∀ c ∈ b, c < 1114112) : ∀ c ∈ a ++ b, c < 1114112 := fun c hc => (List.mem_append.mp hc).elim (h c) (k c)
theorem no_number_ok (way cell : Int) {w : List Nat} {t : Int} {b : Nat} (w0 : 0 ≤ way) (w16 : way < 16) (okw : ∀ c ∈ w, c < 1114112) (lw : w.length ≤ 100) (ht : t.natAbs < 1000000000) (b1 : 1 ≤ b) (hb : b < 1000000000) :
    ∃ a, n__law_no_number way cell (S w) t (b : Int) = .ok (S a) ∧ Bad a := by
  have sm : ∃ n : Nat, 1 + cell % 999 = (n : Int) ∧ 1 ≤ n ∧ n < 1000 := ⟨(1 + cell % 999).toNat, by omega, by omega, by omega⟩
  obtain ⟨n, en, n1, n2⟩ := sm
  have ls : (TL.numL n).length ≤ 3 := TL.numL_len (by decide) (by omega)
  have okn := num_ok n
  have nne := TL.numL_ne n
  have n47 : 47 ∉ TL.numL n := num_free (.inl (by decide))
  have lt' : (itx t).length ≤ 10 := itx_small (by decide) (by simpa using ht)
  have okt := itx_ok t
  unfold n__law_no_number
  rw [mdk, N.bind_ok, N.bind_ok, en, nstr_small (by omega), N.s_ok, itx_nat, lit_s, sadd_S (by simp; omega), N.bind_ok, sadd_S (by simp; omega), N.bind_ok, N.s_ok, mdk, N.bind_ok, N.s_ok]
  have fin : ∀ {x : N PySem.Str}, (∃ z, x = .ok z ∧ BadS z) → ∃ a, (NS.f (N.s x fun q => NS.rt q : NS Unit Unit PySem.Str) : N PySem.Str) = .ok (S a) ∧ Bad a := fun {x} ⟨z, e, a, ez, ba⟩ => ⟨a, by rw [e, ez]; rfl, ba⟩
  by_cases c0 : way % 4 = 0
  · rw [decide_eq_true c0, if_pos rfl, dvk (by decide), N.bind_ok, slen_S (by omega), N.bind_ok, N.bind_ok, N.mod_ok (by omega), N.s_ok]
    have k0 := Int.emod_nonneg (cell / 19) (show ((w.length : Int) + 1) ≠ 0 by omega)
    obtain ⟨x, hx, ex⟩ := str_six cell
    generalize cell / 19 % ((w.length : Int) + 1) = k at k0
    have l1 : (w.take k.toNat).length ≤ 100 := by rw [List.length_take]; omega
    have l2 : (w.drop k.toNat).length ≤ 100 := by rw [List.length_drop]; omega
    refine fin ⟨S (w.take k.toNat ++ [x] ++ w.drop k.toNat), ?_, _, rfl, app_ok (app_ok (fun c hc => okw c (List.mem_of_mem_take hc)) fun c hc => by rw [List.mem_singleton.mp hc]; exact (str_bad x hx).2) (fun c hc => okw c (List.mem_of_mem_drop hc)), by simp only [List.length_append, List.length_cons, List.length_nil]; omega, nu_strange (c := x) (by simp) (str_bad x hx).1⟩
    rw [cut_to (by omega) k0, N.bind_ok, mdk, N.bind_ok, lit_str, ex, N.bind_ok, sadd_S (by simp only [List.length_cons, List.length_nil]; omega), N.bind_ok, cut_from (by omega) k0, N.bind_ok, sadd_S (by simp only [List.length_append, List.length_cons, List.length_nil]; omega)]
  rw [decide_eq_false c0, if_neg (by decide), N.bind_ok, N.s_ok]
  by_cases c1 : way % 4 = 1
  · rw [decide_eq_true c1, if_pos rfl]
    obtain ⟨z, ez, bz⟩ := pick2 (p := BadS) (xs := [("" : PySem.Str), ("-" : PySem.Str), ("-0" : PySem.Str), ("/" : PySem.Str), ("--1" : PySem.Str), ("00" : PySem.Str), ("-/2" : PySem.Str), ("1//2" : PySem.Str), S ([47] ++ TL.numL n), S (TL.numL n ++ [47])]) (fun x hx => by
      simp only [List.mem_cons, List.not_mem_nil, or_false] at hx
      rcases hx with rfl | rfl | rfl | rfl | rfl | rfl | rfl | rfl | rfl | rfl
      · exact bad_cst (a := []) (by decide +kernel)
      · exact bad_cst (a := [45]) (by decide +kernel)
      · exact bad_cst (a := [45, 48]) (by decide +kernel)
      · exact bad_cst (a := [47]) (by decide +kernel)
      · exact bad_cst (a := [45, 45, 49]) (by decide +kernel)
      · exact bad_cst (a := [48, 48]) (by decide +kernel)
      · exact bad_cst (a := [45, 47, 50]) (by decide +kernel)
      · exact bad_cst (a := [49, 47, 47, 50]) (by decide +kernel)
      · exact ⟨_, rfl, app_ok (by decide) okn, by simp; omega, nu_top (p := []) (by simp) n47 (by decide +kernel)⟩
      · exact ⟨_, rfl, app_ok okn (by decide), by simp; omega, nu_bot (q := []) n47 (by simp) (by decide +kernel)⟩) cell (n := 10) rfl (by decide)
    exact fin ⟨z, by rw [mdk, N.bind_ok]; exact ez, bz⟩
  rw [decide_eq_false c1, if_neg (by decide), dvk (by decide), N.bind_ok, mdk, N.bind_ok, N.s_ok]
  by_cases d0 : way / 4 % 4 = 0
  · rw [decide_eq_true d0, if_pos rfl]
    have eabs : (if t < 0 then -t else t) = (t.natAbs : Int) := abs_n t
    have la : (TL.numL t.natAbs).length ≤ 9 := TL.numL_len (by decide) (by simpa using ht)
    have oka := num_ok t.natAbs
    have ane := TL.numL_ne t.natAbs
    have a47 : 47 ∉ TL.numL t.natAbs := num_free (.inl (by decide))
    obtain ⟨z, ez, p, rfl, lp, okp, np⟩ := pick2 (p := fun z => ∃ p : List Nat, z = S p ∧ p.length ≤ 2 ∧ (∀ c ∈ p, c < 1114112) ∧ nu (p ++ TL.numL t.natAbs) = none) (xs := [("0" : PySem.Str), ("-0" : PySem.Str)]) (fun x hx => by
      simp only [List.mem_cons, List.not_mem_nil, or_false] at hx
      rcases hx with rfl | rfl
      · refine ⟨[48], rfl, by decide, by decide, ?_⟩
        rw [nu_one (fun q => (List.mem_append.mp q).elim (by decide) a47)]
        rw [nuL_one]
        unfold topL
        rw [if_neg (by show ¬ (some 48 = some 45); decide)]
        show (match (match wh (48 :: TL.numL t.natAbs) with | some n => some (n : Int) | none => none) with | some t => some (t, (1 : Int)) | none => none) = none
        rw [wh_zero ane]
      · refine ⟨[45, 48], rfl, by decide, by decide, ?_⟩
        rw [nu_one (fun q => (List.mem_append.mp q).elim (by decide) a47)]
        rw [nuL_one]
        show (match topL (45 :: (48 :: TL.numL t.natAbs)) with | some t => some (t, (1 : Int)) | none => none) = none
        rw [top_minus, wh_zero ane]) cell (n := 2) rfl (by decide)
    exact fin ⟨S (p ++ TL.numL t.natAbs), by rw [mdk, N.bind_ok, ez, N.bind_ok, eabs, nstr_small (by omega), N.bind_ok, itx_nat, sadd_S (by omega)], _, rfl, app_ok okp oka, by simp; omega, np⟩
  rw [decide_eq_false d0, if_neg (by decide), N.bind_ok, N.s_ok]
  by_cases d1 : way / 4 % 4 = 1
  · rw [decide_eq_true d1, if_pos rfl]
    obtain ⟨z, ez, p, rfl, lp, okp, np⟩ := pick2 (p := fun z => ∃ p : List Nat, z = S p ∧ p.length ≤ 10 ∧ (∀ c ∈ p, c < 1114112) ∧ nu (itx t ++ 47 :: p) = none) (xs := [("1" : PySem.Str), ("0" : PySem.Str), S ([45] ++ TL.numL n), S ([48] ++ TL.numL n)]) (fun x hx => by
      simp only [List.mem_cons, List.not_mem_nil, or_false] at hx
      rcases hx with rfl | rfl | rfl | rfl
      · exact ⟨[49], rfl, by decide, by decide, nu_low (b := 1) slash_free (by decide) (by decide +kernel) (by decide)⟩
      · exact ⟨[48], rfl, by decide, by decide, nu_low (b := 0) slash_free (by decide) (by decide +kernel) (by decide)⟩
      · exact ⟨_, rfl, by simp; omega, app_ok (by decide) okn, nu_bot slash_free (fun q => (List.mem_append.mp q).elim (by decide) n47) (wh_strange (c := 45) (by simp) (by decide))⟩
      · exact ⟨_, rfl, by simp; omega, app_ok (by decide) okn, nu_bot slash_free (fun q => (List.mem_append.mp q).elim (by decide) n47) (wh_zero nne)⟩) cell (n := 4) rfl (by decide)
    have e45 : N.sadd ("-" : PySem.Str) (S (TL.numL n)) = .ok (S ([45] ++ TL.numL n)) := sadd_S (a := [45]) (by simp; omega)
    have e48 : N.sadd ("0" : PySem.Str) (S (TL.numL n)) = .ok (S ([48] ++ TL.numL n)) := sadd_S (a := [48]) (by simp; omega)
    refine fin ⟨S (itx t ++ 47 :: p), ?_, _, rfl, app_ok okt fun c hc => (List.mem_cons.mp hc).elim (fun e => by omega) (okp c), by simp; omega, np⟩
    rw [nstr_small (by omega), N.bind_ok, sadd_S (by simp; omega), N.bind_ok, e45, N.bind_ok, e48, N.bind_ok, N.bind_ok, mdk, N.bind_ok, ez, N.bind_ok, sadd_S (by simp; omega)]
    rw [List.append_assoc]; rfl
  rw [decide_eq_false d1, if_neg (by decide), N.bind_ok, N.s_ok]
  by_cases d2 : way / 4 % 4 = 2
  · rw [decide_eq_true d2, if_pos rfl]
    obtain ⟨k, ek, k2, k8⟩ : ∃ k : Nat, 2 + cell % 7 = (k : Int) ∧ 2 ≤ k ∧ k ≤ 8 := ⟨(2 + cell % 7).toNat, by omega, by omega, by omega⟩
    have h1 : (t * (k : Int)).natAbs < 10 ^ 10 := by rw [Int.natAbs_mul, Int.natAbs_natCast]; exact Nat.lt_of_le_of_lt (Nat.mul_le_mul (show t.natAbs ≤ 999999999 by omega) k8) (by decide)
    have h2 : ((b : Int) * (k : Int)).natAbs < 10 ^ 10 := by rw [Int.natAbs_mul, Int.natAbs_natCast, Int.natAbs_natCast]; exact Nat.lt_of_le_of_lt (Nat.mul_le_mul (show b ≤ 999999999 by omega) k8) (by decide)
    have l1 := itx_small (k := 10) (by decide) h1
    have l2 := itx_small (k := 10) (by decide) h2
    refine fin ⟨S (itx (t * (k : Int)) ++ 47 :: itx ((b : Int) * (k : Int))), ?_, _, rfl, app_ok (itx_ok _) fun c hc => (List.mem_cons.mp hc).elim (fun e => by omega) (itx_ok _ c), by simp; omega, nu_shared k2⟩
    rw [mdk, N.bind_ok, N.bind_ok, ek, N.mul_r (by omega), N.bind_ok, nstr_small (by omega), N.bind_ok, sadd_S (by simp; omega), N.bind_ok, N.bind_ok, N.mul_r (by omega), N.bind_ok, nstr_small (by omega), N.bind_ok, sadd_S (by simp; omega)]
    rw [List.append_assoc]; rfl
  rw [decide_eq_false d2, if_neg (by decide)]
  obtain ⟨g, eg, g1, g2⟩ : ∃ g : Nat, 1000000000 + cell % 1000000000000 = (g : Int) ∧ 1000000000 ≤ g ∧ g < 10 ^ 13 := ⟨(1000000000 + cell % 1000000000000).toNat, by omega, by omega, by omega⟩
  have lg : (TL.numL g).length ≤ 13 := TL.numL_len (by decide) g2
  have okg := num_ok g
  have g47 : 47 ∉ TL.numL g := num_free (.inl (by decide))
  obtain ⟨z, ez, p, rfl, lp, okp, np⟩ := pick2 (p := fun z => ∃ p : List Nat, z = S p ∧ p.length ≤ 2 ∧ (∀ c ∈ p, c < 1114112) ∧ nu (p ++ TL.numL g) = none) (xs := [("" : PySem.Str), ("-" : PySem.Str), ("1/" : PySem.Str)]) (fun x hx => by
    simp only [List.mem_cons, List.not_mem_nil, or_false] at hx
    rcases hx with rfl | rfl | rfl
    · refine ⟨[], rfl, by decide, by decide, ?_⟩
      rw [List.nil_append, nu_one g47]
      rw [nuL_one, top_num, wh_big g1]
    · refine ⟨[45], rfl, by decide, by decide, ?_⟩
      rw [nu_one (fun q => (List.mem_append.mp q).elim (by decide) g47)]
      rw [nuL_one]
      show (match topL (45 :: TL.numL g) with | some t => some (t, (1 : Int)) | none => none) = none
      rw [top_minus, wh_big g1]
    · exact ⟨[49, 47], rfl, by decide, by decide, nu_bot (p := [49]) (by decide) g47 (wh_big g1)⟩) cell (n := 3) rfl (by decide)
  exact fin ⟨S (p ++ TL.numL g), by rw [mdk, N.bind_ok, ez, N.bind_ok, mdk, N.bind_ok, N.bind_ok, eg, nstr_small (by omega), N.bind_ok, itx_nat, sadd_S (by omega)], _, rfl, app_ok okp okg, by simp; omega, np⟩
end Q
end Lw
namespace Lw
open Bn
namespace Q
open SX (S S_len S_cat S_beq_eq)
open PySem.NumText (AllDigits digitsVal)
def tx (t b : Int) : List Nat := if b = 1 then itx t else itx t ++ 47 :: itx b
theorem nstr_k {i : Int} {k : Nat} (kk : k ≤ 400) (h : i.natAbs < 10 ^ k) : N.str i = .ok (S (itx i)) := nstr_ok (by
  by_cases z : i.natAbs = 0
  · rw [z]; decide
  · have h1 : 10 ^ k ≤ 10 ^ 400 := Nat.pow_le_pow_right (by decide) kk
    have h2 : 10 ^ 400 ≤ 2 ^ 1920 := by decide +kernel
    exact (Nat.log2_lt z).mpr (by omega))
theorem tx_ok (t b : Int) : ∀ c ∈ tx t b, c < 1114112 := fun c hc => by
  unfold tx at hc
  split at hc
  · exact itx_ok _ c hc
  · rcases List.mem_append.mp hc with hc | hc
    · exact itx_ok _ c hc
    · rcases List.mem_cons.mp hc with hc | hc
      · omega
      · exact itx_ok _ c hc
theorem tx_len {t b : Int} {k : Nat} (hk : 0 < k) (h1 : t.natAbs < 10 ^ k) (h2 : b.natAbs < 10 ^ k) : (tx t b).length ≤ 2 * k + 3 := by
  have l1 := itx_small hk h1
  have l2 := itx_small hk h2
  unfold tx
  split
  · omega
  · simp only [List.length_append, List.length_cons]; omega
theorem law_text_ok {t b : Int} {k : Nat} (hk : 0 < k) (kk : k ≤ 400) (h1 : t.natAbs < 10 ^ k) (h2 : b.natAbs < 10 ^ k) : n__law_text t b = .ok (S (tx t b)) := by
  have l1 := itx_small hk h1
  have l2 := itx_small hk h2
  unfold n__law_text tx
  by_cases c : b = 1
  · rw [decide_eq_true c, if_pos rfl, if_pos c, nstr_k kk h1]; rfl
  · rw [decide_eq_false c, if_neg (by decide), if_neg c, nstr_k kk h1, nstr_k kk h2, N.bind_ok, lit_s, sadd_S (by simp; omega), N.bind_ok, N.bind_ok, sadd_S (by simp; omega), List.append_assoc]; rfl
theorem written_ok {t b : Int} {k : Nat} (hk : 0 < k) (kk : k ≤ 400) (h1 : t.natAbs < 10 ^ k) (h2 : b.natAbs < 10 ^ k) : n_written (t, b) = .ok (S (tx t b)) := by
  have l1 := itx_small hk h1
  have l2 := itx_small hk h2
  unfold n_written tx
  by_cases c : b = 1
  · rw [decide_eq_true c, if_pos rfl, if_pos c, nstr_k kk h1]; rfl
  · rw [decide_eq_false c, if_neg (by decide), if_neg c, nstr_k kk h1, nstr_k kk h2, N.bind_ok, lit_s, sadd_S (by simp; omega), N.bind_ok, N.bind_ok, sadd_S (by simp; omega), List.append_assoc]; rfl
theorem nu_tx {t b : Int} (h1 : t.natAbs < 1000000000) (b1 : 1 ≤ b) (b2 : b < 1000000000) (g : Nat.gcd t.natAbs b.natAbs = 1) : nu (tx t b) = some (t, b) := by
  unfold tx
  by_cases c : b = 1
  · rw [if_pos c, c]; exact nu_int h1
  · obtain ⟨n, rfl⟩ : ∃ n : Nat, b = (n : Int) := ⟨b.toNat, by omega⟩
    rw [if_neg c]
    exact nu_frac h1 (by omega) (by omega) g
theorem law_divisor_ok {a b : Nat} (hb : b < 2 ^ 64) : n__law_divisor (a : Int) (b : Int) = .ok ((Nat.gcd a b : Nat) : Int) := by
  have hf := fuel_big
  have e := fun κ ρ => euclidN (κ := κ) (ρ := ρ) 64 fuelN a b hb (by omega)
  unfold n__law_divisor
  rw [e]
  rfl
theorem whole_t (i : Int) : n__law_whole i = .ok true := by unfold n__law_whole; rfl
theorem dt_eq (i j : Int) : N.gb (gNe (D.tup [(D.int i), (D.int j)]) (D.tup [(D.int i), (D.int j)])) = .ok false := by
  rw [vNe2]
  simp [N.gb]
theorem n_law_ok (sc : List Int) : n_law sc = .ok true := by
  obtain ⟨c0, e0⟩ := cell_any sc (k := 0) (by decide)
  obtain ⟨c1, e1⟩ := cell_any sc (k := 1) (by decide)
  obtain ⟨c2, e2⟩ := cell_any sc (k := 2) (by decide)
  obtain ⟨c3, e3⟩ := cell_any sc (k := 3) (by decide)
  obtain ⟨c4, e4⟩ := cell_any sc (k := 4) (by decide)
  obtain ⟨c5, e5⟩ := cell_any sc (k := 5) (by decide)
  obtain ⟨c6, e6⟩ := cell_any sc (k := 6) (by decide)
  unfold n_law
  rw [e0, e1, N.bind_ok, mdk, N.bind_ok, N.s_ok, N.bind_ok, mdk, N.bind_ok, N.s_ok]
  have r0 : (c0 % 1999999999 - 999999999).natAbs < 1000000000 := by omega
  have r1 : 1 ≤ 1 + c1 % 999999999 ∧ 1 + c1 % 999999999 < 1000000000 := by omega
  generalize c0 % 1999999999 - 999999999 = t0 at r0
  generalize 1 + c1 % 999999999 = b0 at r1
  rw [e2, N.bind_ok, mdk, N.bind_ok, N.s_ok]
  obtain ⟨b2, eb, r2⟩ : ∃ b2 : Int, (if decide (c2 % 3 = 1) = true then NS.nx 1 else NS.nx b0 : NS Int Unit Bool) = .nx b2 ∧ (1 ≤ b2 ∧ b2 < 1000000000) := by
    by_cases c : c2 % 3 = 1
    · exact ⟨1, by rw [decide_eq_true c, if_pos rfl], by decide, by decide⟩
    · exact ⟨b0, by rw [decide_eq_false c, if_neg (by decide)], r1⟩
  rw [eb, NS_s_nx, N.bind_ok, N.s_ok]
  obtain ⟨p, ep, r3, r4⟩ : ∃ p : Int × Int, (if decide (c2 % 3 = 2) = true then
      N.s (N.bind (N.mod t0 401) fun x317 => N.ok (x317 - 200)) fun top'2 =>
      N.s (N.bind (N.mod b2 60) fun x318 => N.ok (1 + x318)) fun bottom'2 =>
      NS.nx (top'2, bottom'2)
      else
      NS.nx (t0, b2) : NS (Int × Int) Unit Bool) = .nx p ∧ p.1.natAbs < 1000000000 ∧ (1 ≤ p.2 ∧ p.2 < 1000000000) := by
    by_cases c : c2 % 3 = 2
    · rw [decide_eq_true c, if_pos rfl, mdk, N.bind_ok, N.s_ok, mdk, N.bind_ok, N.s_ok]
      exact ⟨_, rfl, by show (t0 % 401 - 200).natAbs < _; omega, by show 1 ≤ 1 + b2 % 60; omega, by show 1 + b2 % 60 < _; omega⟩
    · exact ⟨_, by rw [decide_eq_false c, if_neg (by decide)], r0, r2⟩
  rw [ep, NS_s_nx]
  obtain ⟨t, b⟩ := p
  dsimp only at r3 r4 ⊢
  obtain ⟨n, rfl⟩ : ∃ n : Nat, b = (n : Int) := ⟨b.toNat, by omega⟩
  rw [abs_n, law_divisor_ok (by omega), N.s_ok]
  have g0 : 0 < Nat.gcd t.natAbs n := Nat.gcd_pos_of_pos_right _ (by omega)
  have g1 : Nat.gcd t.natAbs n ≤ n := Nat.gcd_le_right _ (by omega)
  have cop : Nat.gcd (t.natAbs / Nat.gcd t.natAbs n) (n / Nat.gcd t.natAbs n) = 1 := by rw [Nat.gcd_div (Nat.gcd_dvd_left _ _) (Nat.gcd_dvd_right _ _), Nat.div_self g0]
  have dt : Nat.gcd t.natAbs n ∣ t.natAbs := Nat.gcd_dvd_left _ _
  generalize Nat.gcd t.natAbs n = g at g0 g1 cop dt
  have ag : ((g : Int)).natAbs < 2 ^ 64 := by rw [Int.natAbs_natCast]; omega
  rw [dvk (by omega) ag, N.s_ok, dvk (by omega) ag, N.s_ok]
  have et : (t / (g : Int)).natAbs = t.natAbs / g := by
    rw [Int.natAbs_ediv_of_dvd (Int.ofNat_dvd_left.mpr dt), Int.natAbs_natCast]
  have eb2 : (n : Int) / (g : Int) = ((n / g : Nat) : Int) := rfl
  rw [eb2]
  have l1 : (t / (g : Int)).natAbs < 1000000000 := by rw [et]; exact Nat.lt_of_le_of_lt (Nat.div_le_self _ _) r3
  have l2 : 1 ≤ n / g := (Nat.one_le_div_iff g0).mpr g1
  have l3 : n / g < 1000000000 := Nat.lt_of_le_of_lt (Nat.div_le_self _ _) (by omega)
  rw [← et] at cop
  generalize t / (g : Int) = x at l1 cop
  generalize n / g = m at l2 l3 cop
  have p9 : (10 : Nat) ^ 9 = 1000000000 := rfl
  have hx : x.natAbs < 10 ^ 9 := by omega
  have hm : ((m : Int)).natAbs < 10 ^ 9 := by rw [Int.natAbs_natCast]; omega
  have okw := tx_ok x (m : Int)
  have lw := tx_len (k := 9) (by decide) hx hm
  rw [law_text_ok (k := 9) (by decide) (by decide) hx hm, N.s_ok, number_ok okw (by omega), nu_tx l1 (by omega) (by omega) (by rw [Int.natAbs_natCast]; exact cop)]
  show NS.f (N.s (N.ok (x, (m : Int))) _) = _
  rw [N.s_ok, whole_t, whole_t]
  show NS.f (N.s (N.ok false) _) = _
  rw [N.s_ok, if_neg (by decide), dt_eq, written_ok (k := 9) (by decide) (by decide) hx hm, N.bind_ok, ne_S okw okw, decide_eq_true rfl]
  show NS.f (N.s (N.ok false) _) = _
  rw [N.s_ok, if_neg (by decide), e3, N.bind_ok, mdk, N.bind_ok, N.s_ok, e4, N.bind_ok, mdk, N.bind_ok, N.bind_ok]
  have f1 : 1 ≤ 1 + c3 % 1000000000000000000000000000000000000000000000000000000000000 ∧ 1 + c3 % 1000000000000000000000000000000000000000000000000000000000000 ≤ 10 ^ 60 := by omega
  have f2 : (c4 % 2000000000000000000000000000000000000000000000000000000000000000000000000000000000000000000000000000000000000000000000000 - 1000000000000000000000000000000000000000000000000000000000000000000000000000000000000000000000000000000000000000000000000).natAbs ≤ 10 ^ 120 := by omega
  generalize 1 + c3 % 1000000000000000000000000000000000000000000000000000000000000 = far at f1
  generalize c4 % 2000000000000000000000000000000000000000000000000000000000000000000000000000000000000000000000000000000000000000000000000 - 1000000000000000000000000000000000000000000000000000000000000000000000000000000000000000000000000000000000000000000000000 = gr at f2
  have f3 : far.natAbs ≤ 10 ^ 60 := by omega
  rw [N.mul_w 400 200 (Nat.lt_of_le_of_lt f2 (by decide +kernel)) (Nat.lt_of_le_of_lt f3 (by decide +kernel)) (by decide) (by decide) (by decide), N.bind_ok, N.s_ok]
  have f4 : (gr * far + 1).natAbs < 10 ^ 200 := by
    have h1 : (gr * far).natAbs ≤ 10 ^ 120 * 10 ^ 60 := by rw [Int.natAbs_mul]; exact Nat.mul_le_mul f2 f3
    have h2 : (10 : Nat) ^ 120 * 10 ^ 60 + 1 < 10 ^ 200 := by decide +kernel
    exact Nat.lt_of_le_of_lt (Nat.le_trans (Int.natAbs_add_le _ _) (Nat.add_le_add_right h1 1)) h2
  have f5 : far.natAbs < 10 ^ 200 := Nat.lt_of_le_of_lt f3 (by decide +kernel)
  have okg := tx_ok (gr * far + 1) far
  rw [written_ok (k := 200) (by decide) (by decide) f4 f5, N.s_ok, law_text_ok (k := 200) (by decide) (by decide) f4 f5, N.bind_ok, ne_S okg okg, decide_eq_true rfl]
  show NS.f (N.s (N.ok false) _) = _
  rw [N.s_ok, if_neg (by decide), e5, N.bind_ok, mdk, N.bind_ok, e6, N.bind_ok]
  have w0 : 0 ≤ c5 % 16 := by omega
  have w1 : c5 % 16 < 16 := by omega
  obtain ⟨a, ea, ba⟩ := no_number_ok (c5 % 16) c6 w0 w1 okw (by omega) l1 l2 l3
  rw [ea, N.bind_ok, refused_ok ba.ok (by have := ba.len; omega) ba.no]
  rfl
end Q
theorem law_true (sc : List Int) (h : sc.length ≤ 63) : f_law [.cst (sc.map D.int)] = .ok (.bl true) := by
  obtain ⟨d, e, q⟩ := vf_law.ok (a := sc) (ds := [.cst (sc.map D.int)]) ⟨_, rfl, rfl⟩ (Q.n_law_ok sc)
  rw [e]
  cases (show d = .bl true from q)
  rfl
end Lw
namespace Lw
open PySem PySem.Spec PyProof.Rows L2 Bn
structure Tx (K : PySem.W.Frag) (mg : Str → Option Value) (ca : Str → Addr) : Prop where
  ValueError : mg "ValueError" = none
  abs_ : mg "abs" = none
  bool_ : mg "bool" = none
  int_ : mg "int" = none
  isinstance : mg "isinstance" = none
  len_ : mg "len" = none
  str_ : mg "str" = none
  tuple_ : mg "tuple" = none
  x_BoxError : Ec K mg ca "BoxError"
  x_NoNumber : Ec K mg ca "NoNumber"
  x_NoRow : Ec K mg ca "NoRow"
  xg_NoBook : mg "NoBook" = some (.ref (ca "NoBook"))
  xg_NoCut : mg "NoCut" = some (.ref (ca "NoCut"))
  xg_NoName : mg "NoName" = some (.ref (ca "NoName"))
  xg_NoNumber : mg "NoNumber" = some (.ref (ca "NoNumber"))
  xg_NoRow : mg "NoRow" = some (.ref (ca "NoRow"))
  xg_NoSpan : mg "NoSpan" = some (.ref (ca "NoSpan"))
  xg_NoTask : mg "NoTask" = some (.ref (ca "NoTask"))
  xg_TooMuch : mg "TooMuch" = some (.ref (ca "TooMuch"))
  k_FIGURES : Kc K mg "FIGURES" Lw.k_FIGURES
  h_BoxError : ∀ y t, sub_BoxError y = some t → PySem.W.exmOne K (.ref (ca y)) (.ref (ca "BoxError")) = some t
  n_BoxError : mg "BoxError" = some (.ref (ca "BoxError")) ∨ (mg "BoxError" = none ∧ bootBuiltins "BoxError" = some (.ref (ca "BoxError")) ∧ ("BoxError" : Str) ≠ "__name__")
  i_NoBook : ∀ y t, is_NoBook y = some t → ExcC K (ca y) ∧ PySem.W.kitOne K (.ref (ca y)) (.ref (ca "NoBook")) = some t
  i_NoCut : ∀ y t, is_NoCut y = some t → ExcC K (ca y) ∧ PySem.W.kitOne K (.ref (ca y)) (.ref (ca "NoCut")) = some t
  i_NoName : ∀ y t, is_NoName y = some t → ExcC K (ca y) ∧ PySem.W.kitOne K (.ref (ca y)) (.ref (ca "NoName")) = some t
  i_NoNumber : ∀ y t, is_NoNumber y = some t → ExcC K (ca y) ∧ PySem.W.kitOne K (.ref (ca y)) (.ref (ca "NoNumber")) = some t
  i_NoRow : ∀ y t, is_NoRow y = some t → ExcC K (ca y) ∧ PySem.W.kitOne K (.ref (ca y)) (.ref (ca "NoRow")) = some t
  i_NoSpan : ∀ y t, is_NoSpan y = some t → ExcC K (ca y) ∧ PySem.W.kitOne K (.ref (ca y)) (.ref (ca "NoSpan")) = some t
  i_NoTask : ∀ y t, is_NoTask y = some t → ExcC K (ca y) ∧ PySem.W.kitOne K (.ref (ca y)) (.ref (ca "NoTask")) = some t
  i_TooMuch : ∀ y t, is_TooMuch y = some t → ExcC K (ca y) ∧ PySem.W.kitOne K (.ref (ca y)) (.ref (ca "TooMuch")) = some t
  i_ValueError : ∀ y t, is_ValueError y = some t → ExcC K (ca y) ∧ PySem.W.kitOne K (.ref (ca y)) (.type "ValueError") = some t
section
variable {P : Program} {w : World} {K : PySem.W.Frag} {mg : Str → Option Value} {base : Heap} {ca : Str → Addr}
theorem ok__law_divisor (T : Tx K mg ca)  {f : Addr} {fd : FuncData} (F : Fun K "_law_divisor" "_law_divisor" s__law_divisor f fd) : FnOk P w K mg base (L2.CX P w) 1 f fd ["_law_a", "_law_b"] (spP K ca f__law_divisor) :=
  fn_ok F sc__law_divisor fun cdv A outer s H E F0 R hr c => (s_cons (s_while c fuel__law_divisor1 (t_cmpZ op_gt sGt (z_var (pv 1)) z_int) (s_cons (s_set (i := 2) sc__law_divisor.nd rfl (.inl rfl) (e_z (z_op op_mod sMod (z_var (pv 0)) (z_var (pv 1)))))
    (s_cons (s_set (i := 0) sc__law_divisor.nd rfl (.inl rfl) (e_var (pv 1)))
    (s_one (s_set (i := 1) sc__law_divisor.nd rfl (.inl rfl) (e_var (pv 2)))))))
    (s_one (s_ret (e_mv (pv 0)))))
theorem ok__law_text (T : Tx K mg ca)  {f : Addr} {fd : FuncData} (F : Fun K "_law_text" "_law_text" s__law_text f fd) : FnOk P w K mg base (L2.CX P w) 1 f fd ["_law_top", "_law_bottom"] (spP K ca f__law_text) :=
  fn_ok F sc__law_text fun cdv A outer s H E F0 R hr c => (s_cons (s_if (t_cmpZ (op_eqD hr.units) sEq (z_var (pv 1)) z_int) (s_one (s_ret (e_callTy call_str_int sStrI (by rfl) T.str_ (by decide +kernel) (a_cons (e_var (pv 0)) a_nil)))) s_nil)
    (s_one (s_ret (e_op op_add_str sAddS (e_op op_add_str sAddS (e_callTy call_str_int sStrI (by rfl) T.str_ (by decide +kernel) (a_cons (e_var (pv 0)) a_nil)) (e_z z_str)) (e_callTy call_str_int sStrI (by rfl) T.str_ (by decide +kernel) (a_cons (e_var (pv 1)) a_nil))))))
theorem ok_whole_of (T : Tx K mg ca)  {f : Addr} {fd : FuncData} (F : Fun K "whole_of" "whole_of" s_whole_of f fd) : FnOk P w K mg base (L2.CX P w) 1 f fd ["figures"] (spP K ca f_whole_of) :=
  fn_ok F sc_whole_of fun cdv A outer s H E F0 R hr c => (s_cons (s_if (PW.pt (t_or (t_cmpZ (op_eqD hr.units) sEq (z_var (pv 0)) z_str) (t_or1 (t_cmpZ op_gt sGt (z_callB call_len sLen (by rfl) T.len_ (by decide +kernel) (za_cons (z_var (pv 0)) za_nil)) z_int)))) (s_one (s_raise c T.x_NoRow (by rfl))) s_nil)
    (s_cons (s_for c (i_str (e_var (pv 0))) (g_name (i := 1) sc_whole_of.nd rfl (.inl rfl)) (s_one (s_if (t_cmpZ op_notIn_sign sNotInS (z_var (pv 1)) (z_k T.k_FIGURES (by rfl))) (s_one (s_raise c T.x_NoRow (by rfl))) s_nil)))
    (s_cons (s_if (PW.pt (t_and (t_cmpZ (op_eqD hr.units) sEq (z_ix ix_seq sIx (z_var (pv 0)) z_int) z_str) (t_and1 (t_cmpZ op_gt sGt (z_callB call_len sLen (by rfl) T.len_ (by decide +kernel) (za_cons (z_var (pv 0)) za_nil)) z_int)))) (s_one (s_raise c T.x_NoRow (by rfl))) s_nil)
    (s_one (s_ret (e_callTy call_int_str sIntS (by rfl) T.int_ (by decide +kernel) (a_cons (e_var (pv 0)) a_nil)))))))
theorem ok_divisor (T : Tx K mg ca)  {f : Addr} {fd : FuncData} (F : Fun K "divisor" "divisor" s_divisor f fd) : FnOk P w K mg base (L2.CX P w) 1 f fd ["a", "b"] (spP K ca f_divisor) :=
  fn_ok F sc_divisor fun cdv A outer s H E F0 R hr c => (s_cons (s_set (i := 0) sc_divisor.nd rfl (.inl rfl) (e_z (z_callB call_abs sAbs (by rfl) T.abs_ (by decide +kernel) (za_cons (z_var (pv 0)) za_nil))))
    (s_cons (s_set (i := 1) sc_divisor.nd rfl (.inl rfl) (e_z (z_callB call_abs sAbs (by rfl) T.abs_ (by decide +kernel) (za_cons (z_var (pv 1)) za_nil))))
    (s_cons (s_while c fuel_divisor1 (t_cmpZ op_gt sGt (z_var (pv 1)) z_int) (s_cons (s_set (i := 2) sc_divisor.nd rfl (.inl rfl) (e_z (z_op op_mod sMod (z_var (pv 0)) (z_var (pv 1)))))
    (s_cons (s_set (i := 0) sc_divisor.nd rfl (.inl rfl) (e_var (pv 1)))
    (s_one (s_set (i := 1) sc_divisor.nd rfl (.inl rfl) (e_var (pv 2)))))))
    (s_one (s_ret (e_mv (pv 0)))))))
theorem ok_fraction (T : Tx K mg ca) (G_divisor : Fo P w K mg base ca 1 "divisor" f_divisor) {f : Addr} {fd : FuncData} (F : Fun K "fraction" "fraction" s_fraction f fd) : FnOk P w K mg base (L2.CX P w) 2 f fd ["top", "bottom"] (spP K ca f_fraction) :=
  fn_ok F sc_fraction fun cdv A outer s H E F0 R hr c => (s_cons (s_if (t_cmpZ (op_eqD hr.units) sEq (z_var (pv 1)) z_int) (s_one (s_raise c T.x_NoNumber (by rfl))) s_nil)
    (s_cons (s_if (t_cmpZ op_lt sLt (z_var (pv 1)) z_int) (s_cons (s_set (i := 0) sc_fraction.nd rfl (.inl rfl) (e_z (z_un un_neg sNeg (z_var (pv 0)))))
    (s_one (s_set (i := 1) sc_fraction.nd rfl (.inl rfl) (e_z (z_un un_neg sNeg (z_var (pv 1))))))) s_nil)
    (s_cons (s_set (i := 2) sc_fraction.nd rfl (.inl rfl) (e_call c G_divisor hr (by rfl) (a_cons (e_var (pv 0)) (a_cons (e_var (pv 1)) a_nil))))
    (s_one (s_ret (e_tup (a_cons (e_z (z_op op_fdivW sDiv (z_var (pv 0)) (z_var (pv 2)))) (a_cons (e_z (z_op op_fdivW sDiv (z_var (pv 1)) (z_var (pv 2)))) a_nil))))))))
theorem ok_number_of (T : Tx K mg ca) (G_whole_of : Fo P w K mg base ca 1 "whole_of" f_whole_of) (G_fraction : Fo P w K mg base ca 2 "fraction" f_fraction) {f : Addr} {fd : FuncData} (F : Fun K "number_of" "number_of" s_number_of f fd) : FnOk P w K mg base (L2.CX P w) 3 f fd ["word"] (spP K ca f_number_of) :=
  fn_ok F sc_number_of fun cdv A outer s H E F0 R hr c => (s_cons (s_set (i := 1) sc_number_of.nd rfl (.inl rfl) (e_split (e_var (pv 0)) (e_z z_str)))
    (s_cons (s_if (t_cmpZ op_gt sGt (z_callB call_len sLen (by rfl) T.len_ (by decide +kernel) (za_cons (z_var (pv 1)) za_nil)) z_int) (s_one (s_raise c T.x_NoRow (by rfl))) s_nil)
    (s_cons (s_if (t_cmpE (op_eqD hr.units) sEq (e_sliceS (e_z (z_ix ix_seq sIx (z_var (pv 1)) z_int)) pe_none (pe_some (e_z z_int))) (e_z z_str)) (s_cons (s_set (i := 2) sc_number_of.nd rfl (.inl rfl) (e_un un_neg sNeg (e_call c G_whole_of hr (by rfl) (a_cons (e_sliceS (e_z (z_ix ix_seq sIx (z_var (pv 1)) z_int)) (pe_some (e_z z_int)) pe_none) a_nil))))
    (s_one (s_if (t_cmpZ (op_eqD hr.units) sEq (z_var (pv 2)) z_int) (s_one (s_raise c T.x_NoRow (by rfl))) s_nil))) (s_one (s_set (i := 2) sc_number_of.nd rfl (.inl rfl) (e_call c G_whole_of hr (by rfl) (a_cons (e_z (z_ix ix_seq sIx (z_var (pv 1)) z_int)) a_nil)))))
    (s_cons (s_if (t_cmpZ (op_eqD hr.units) sEq (z_callB call_len sLen (by rfl) T.len_ (by decide +kernel) (za_cons (z_var (pv 1)) za_nil)) z_int) (s_one (s_ret (e_tup (a_cons (e_var (pv 2)) (a_cons (e_z z_int) a_nil))))) s_nil)
    (s_cons (s_set (i := 3) sc_number_of.nd rfl (.inl rfl) (e_call c G_whole_of hr (by rfl) (a_cons (e_z (z_ix ix_seq sIx (z_var (pv 1)) z_int)) a_nil)))
    (s_cons (s_if (PW.pt (t_or (t_cmpZ op_lt sLt (z_var (pv 3)) z_int) (t_or1 (t_cmpE (op_neD hr.units) sNe (e_call c G_fraction hr (by rfl) (a_cons (e_var (pv 2)) (a_cons (e_var (pv 3)) a_nil))) (e_tup (a_cons (e_var (pv 2)) (a_cons (e_var (pv 3)) a_nil))))))) (s_one (s_raise c T.x_NoRow (by rfl))) s_nil)
    (s_one (s_ret (e_tup (a_cons (e_var (pv 2)) (a_cons (e_var (pv 3)) a_nil)))))))))))
theorem ok_written (T : Tx K mg ca)  {f : Addr} {fd : FuncData} (F : Fun K "written" "written" s_written f fd) : FnOk P w K mg base (L2.CX P w) 1 f fd ["a"] (spP K ca f_written) :=
  fn_ok F sc_written fun cdv A outer s H E F0 R hr c => (s_cons (s_if (t_cmpZ (op_eqD hr.units) sEq (z_ix ix_seq sIx (z_var (pv 0)) z_int) z_int) (s_one (s_ret (e_callTy call_str_int sStrI (by rfl) T.str_ (by decide +kernel) (a_cons (e_z (z_ix ix_seq sIx (z_var (pv 0)) z_int)) a_nil)))) s_nil)
    (s_one (s_ret (e_op op_add_str sAddS (e_op op_add_str sAddS (e_callTy call_str_int sStrI (by rfl) T.str_ (by decide +kernel) (a_cons (e_z (z_ix ix_seq sIx (z_var (pv 0)) z_int)) a_nil)) (e_z z_str)) (e_callTy call_str_int sStrI (by rfl) T.str_ (by decide +kernel) (a_cons (e_z (z_ix ix_seq sIx (z_var (pv 0)) z_int)) a_nil))))))
theorem ok__law_other (T : Tx K mg ca) {f : Addr} {fd : FuncData} (F : Fun K "_law_other" "_law_other" s__law_other f fd) {a : Addr} {oe : Obj} {y : Str} (hz : Zc (.ref (ca y)) none oe) (hv : ∃ vs, oe.data = .fields vs) : FnW P w K mg base 1 f fd ["_law_e"] (a, oe) (spW a (ho__law_other y)) :=
  fn_okW (y := y) F sc__law_other (by decide) fun cdv A outer s H E F0 R => (s_cons (s_if (PW.pt (t_or (t_valE (e_isP List.mem_cons_self hz hv (pv 0) (pe_glob (v := .ref (ca "NoNumber")) (by rfl) T.xg_NoNumber rfl) (fun _ h => h) (fun t h => T.i_NoNumber y t h) (by rfl) T.isinstance)) (t_or (t_valE (e_isP List.mem_cons_self hz hv (pv 0) (pe_glob (v := .ref (ca "NoSpan")) (by rfl) T.xg_NoSpan rfl) (fun _ h => h) (fun t h => T.i_NoSpan y t h) (by rfl) T.isinstance)) (t_or (t_valE (e_isP List.mem_cons_self hz hv (pv 0) (pe_glob (v := .ref (ca "NoCut")) (by rfl) T.xg_NoCut rfl) (fun _ h => h) (fun t h => T.i_NoCut y t h) (by rfl) T.isinstance)) (t_or1 (t_valE (e_isP List.mem_cons_self hz hv (pv 0) (pe_glob (v := .ref (ca "NoName")) (by rfl) T.xg_NoName rfl) (fun _ h => h) (fun t h => T.i_NoName y t h) (by rfl) T.isinstance))))))) (s_one (s_ret (e_z z_bl))) s_nil)
    (s_one (s_ret (e_or (e_isP List.mem_cons_self hz hv (pv 0) (pe_glob (v := .ref (ca "TooMuch")) (by rfl) T.xg_TooMuch rfl) (fun _ h => h) (fun t h => T.i_TooMuch y t h) (by rfl) T.isinstance) (e_or (e_isP List.mem_cons_self hz hv (pv 0) (pe_glob (v := .ref (ca "NoTask")) (by rfl) T.xg_NoTask rfl) (fun _ h => h) (fun t h => T.i_NoTask y t h) (by rfl) T.isinstance) (e_one (e_isP List.mem_cons_self hz hv (pv 0) (pe_glob (v := .ref (ca "NoBook")) (by rfl) T.xg_NoBook rfl) (fun _ h => h) (fun t h => T.i_NoBook y t h) (by rfl) T.isinstance)))))))
theorem ok__law_refused (T : Tx K mg ca) (G_number_of : Fo P w K mg base ca 3 "number_of" f_number_of) (H__law_other : Ho P w K mg base ca 1 "_law_other" ho__law_other) {f : Addr} {fd : FuncData} (F : Fun K "_law_refused" "_law_refused" s__law_refused f fd) : FnOk P w K mg base (L2.CX P w) 4 f fd ["_law_word"] (spP K ca f__law_refused) :=
  fn_ok F sc__law_refused fun cdv A outer s H E F0 R hr c => (s_cons (s_set (i := 1) sc__law_refused.nd rfl (.inl rfl) (e_z z_bl))
    (s_cons (s_tryAs (i := 2) c sc__law_refused.nd rfl rfl sub_BoxError ⟨by rfl, by decide, T.n_BoxError⟩ T.h_BoxError rfl rfl (fun _ _ _ c => (s_one (s_expr (e_call c G_number_of hr (by rfl) (a_cons (e_var (pv 0)) a_nil))))) (fun _ _ y _ hz hv => (s_one (s_set (i := 1) sc__law_refused.nd rfl (.inl rfl) (e_and (e_isE hz hv (pv 2) (pe_glob (v := .ref (ca "NoRow")) (by rfl) T.xg_NoRow rfl) (fun _ h => h) (fun t h => T.i_NoRow y t h) (by rfl) T.isinstance) (e_and (e_isE hz hv (pv 2) (pe_bltn (v := .ty "ValueError") (by rfl) T.ValueError (by decide +kernel) rfl) (fun _ h => h) (fun t h => T.i_ValueError y t h) (by rfl) T.isinstance) (e_one (e_not (e_callHo H__law_other hz hv hr (by rfl) (pv 2)))))) (ioE (by decide))))))
    (s_one (s_ret (e_mv (pv 1))))))
theorem ok__law_no_number (T : Tx K mg ca)  {f : Addr} {fd : FuncData} (F : Fun K "_law_no_number" "_law_no_number" s__law_no_number f fd) : FnOk P w K mg base (L2.CX P w) 1 f fd ["_law_way", "_law_cell", "_law_text_here", "_law_top", "_law_bottom"] (spP K ca f__law_no_number) :=
  fn_ok F sc__law_no_number fun cdv A outer s H E F0 R hr c => (s_cons (s_set (i := 5) sc__law_no_number.nd rfl (.inl rfl) (e_callTy call_str_int sStrI (by rfl) T.str_ (by decide +kernel) (a_cons (e_z (z_op op_add sAdd z_int (z_op op_mod sMod (z_var (pv 1)) z_int))) a_nil)))
    (s_cons (s_set (i := 6) sc__law_no_number.nd rfl (.inl rfl) (e_lst (a_cons (e_z z_str) (a_cons (e_z z_str) (a_cons (e_z z_str) (a_cons (e_z z_str) (a_cons (e_z z_str) (a_cons (e_z z_str) (a_cons (e_z z_str) (a_cons (e_z z_str) (a_cons (e_z (z_op op_add_str sAddS z_str (z_var (pv 5)))) (a_cons (e_z (z_op op_add_str sAddS (z_var (pv 5)) z_str)) a_nil))))))))))))
    (s_cons (s_if (t_cmpZ (op_eqD hr.units) sEq (z_op op_mod sMod (z_var (pv 0)) z_int) z_int) (s_cons (s_set (i := 7) sc__law_no_number.nd rfl (.inl rfl) (e_z (z_op op_mod sMod (z_op op_fdivW sDiv (z_var (pv 1)) z_int) (z_op op_add sAdd (z_callB call_len sLen (by rfl) T.len_ (by decide +kernel) (za_cons (z_var (pv 2)) za_nil)) z_int))))
    (s_one (s_ret (e_op op_add_str sAddS (e_op op_add_str sAddS (e_sliceS (e_var (pv 2)) pe_none (pe_some (e_var (pv 7)))) (e_z (z_ix ix_seq sIx z_str (z_op op_mod sMod (z_var (pv 1)) z_int)))) (e_sliceS (e_var (pv 2)) (pe_some (e_var (pv 7))) pe_none))))) s_nil)
    (s_cons (s_if (t_cmpZ (op_eqD hr.units) sEq (z_op op_mod sMod (z_var (pv 0)) z_int) z_int) (s_one (s_ret (e_z (z_ix ix_seq sIx (z_var (pv 6)) (z_op op_mod sMod (z_var (pv 1)) z_int))))) s_nil)
    (s_cons (s_if (t_cmpZ (op_eqD hr.units) sEq (z_op op_mod sMod (z_op op_fdivW sDiv (z_var (pv 0)) z_int) z_int) z_int) (s_one (s_ret (e_op op_add_str sAddS (e_ix ix_seq sIx (e_lst (a_cons (e_z z_str) (a_cons (e_z z_str) a_nil))) (e_z (z_op op_mod sMod (z_var (pv 1)) z_int))) (e_callTy call_str_int sStrI (by rfl) T.str_ (by decide +kernel) (a_cons (e_z (z_callB call_abs sAbs (by rfl) T.abs_ (by decide +kernel) (za_cons (z_var (pv 3)) za_nil))) a_nil))))) s_nil)
    (s_cons (s_if (t_cmpZ (op_eqD hr.units) sEq (z_op op_mod sMod (z_op op_fdivW sDiv (z_var (pv 0)) z_int) z_int) z_int) (s_one (s_ret (e_op op_add_str sAddS (e_op op_add_str sAddS (e_callTy call_str_int sStrI (by rfl) T.str_ (by decide +kernel) (a_cons (e_var (pv 3)) a_nil)) (e_z z_str)) (e_ix ix_seq sIx (e_lst (a_cons (e_z z_str) (a_cons (e_z z_str) (a_cons (e_z (z_op op_add_str sAddS z_str (z_var (pv 5)))) (a_cons (e_z (z_op op_add_str sAddS z_str (z_var (pv 5)))) a_nil))))) (e_z (z_op op_mod sMod (z_var (pv 1)) z_int)))))) s_nil)
    (s_cons (s_if (t_cmpZ (op_eqD hr.units) sEq (z_op op_mod sMod (z_op op_fdivW sDiv (z_var (pv 0)) z_int) z_int) z_int) (s_one (s_ret (e_op op_add_str sAddS (e_op op_add_str sAddS (e_callTy call_str_int sStrI (by rfl) T.str_ (by decide +kernel) (a_cons (e_z (z_op op_mulA sMulA (z_var (pv 3)) (z_op op_add sAdd z_int (z_op op_mod sMod (z_var (pv 1)) z_int)))) a_nil)) (e_z z_str)) (e_callTy call_str_int sStrI (by rfl) T.str_ (by decide +kernel) (a_cons (e_z (z_op op_mulA sMulA (z_var (pv 4)) (z_op op_add sAdd z_int (z_op op_mod sMod (z_var (pv 1)) z_int)))) a_nil))))) s_nil)
    (s_one (s_ret (e_op op_add_str sAddS (e_ix ix_seq sIx (e_lst (a_cons (e_z z_str) (a_cons (e_z z_str) (a_cons (e_z z_str) a_nil)))) (e_z (z_op op_mod sMod (z_var (pv 1)) z_int))) (e_callTy call_str_int sStrI (by rfl) T.str_ (by decide +kernel) (a_cons (e_z (z_op op_add sAdd (z_op op_pow sPow z_int z_int) (z_op op_mod sMod (z_var (pv 1)) (z_op op_pow sPow z_int z_int)))) a_nil))))))))))))
theorem ok__law_cell_at (T : Tx K mg ca)  {f : Addr} {fd : FuncData} (F : Fun K "_law_cell_at" "_law_cell_at" s__law_cell_at f fd) : FnOk P w K mg base (L2.CX P w) 1 f fd ["_law_script", "_law_k"] (spP K ca f__law_cell_at) :=
  fn_ok F sc__law_cell_at fun cdv A outer s H E F0 R hr c => (s_cons (s_if (t_cmpZ op_lt sLt (z_var (pv 1)) (z_callB call_len sLen (by rfl) T.len_ (by decide +kernel) (za_cons (z_var (pv 0)) za_nil))) (s_one (s_ret (e_z (z_ix ix_seq sIx (z_var (pv 0)) (z_var (pv 1)))))) s_nil)
    (s_one (s_ret (e_z z_int))))
theorem ok__law_whole (T : Tx K mg ca)  {f : Addr} {fd : FuncData} (F : Fun K "_law_whole" "_law_whole" s__law_whole f fd) : FnOk P w K mg base (L2.CX P w) 1 f fd ["_law_found"] (spP K ca f__law_whole) :=
  fn_ok F sc__law_whole fun cdv A outer s H E F0 R hr c => (s_one (s_ret (e_and (e_z (z_callB call_isi sIsi (by rfl) T.isinstance (by decide +kernel) (za_cons (z_var (pv 0)) (za_cons (z_ty (by rfl) T.int_ (by decide +kernel)) za_nil)))) (e_one (e_not (e_z (z_callB call_isi sIsi (by rfl) T.isinstance (by decide +kernel) (za_cons (z_var (pv 0)) (za_cons (z_ty (by rfl) T.bool_ (by decide +kernel)) za_nil)))))))))
theorem ok_law (T : Tx K mg ca) (G__law_divisor : Fo P w K mg base ca 1 "_law_divisor" f__law_divisor) (G__law_text : Fo P w K mg base ca 1 "_law_text" f__law_text) (G_number_of : Fo P w K mg base ca 3 "number_of" f_number_of) (G_written : Fo P w K mg base ca 1 "written" f_written) (G__law_refused : Fo P w K mg base ca 4 "_law_refused" f__law_refused) (G__law_no_number : Fo P w K mg base ca 1 "_law_no_number" f__law_no_number) (G__law_cell_at : Fo P w K mg base ca 1 "_law_cell_at" f__law_cell_at) (G__law_whole : Fo P w K mg base ca 1 "_law_whole" f__law_whole) {f : Addr} {fd : FuncData} (F : Fun K "law" "law" s_law f fd) : FnOk P w K mg base (L2.CX P w) 5 f fd ["_law_script"] (spP K ca f_law) :=
  fn_ok F sc_law fun cdv A outer s H E F0 R hr c => (s_cons (s_set (i := 1) sc_law.nd rfl (.inl rfl) (e_op op_sub sSub (e_op op_mod sMod (e_call c G__law_cell_at hr (by rfl) (a_cons (e_var (pv 0)) (a_cons (e_z z_int) a_nil))) (e_z (z_op op_sub sSub (z_op op_mulA sMulA z_int (z_op op_pow sPow z_int z_int)) z_int))) (e_z (z_op op_sub sSub (z_op op_pow sPow z_int z_int) z_int))))
    (s_cons (s_set (i := 2) sc_law.nd rfl (.inl rfl) (e_op op_add sAdd (e_z z_int) (e_op op_mod sMod (e_call c G__law_cell_at hr (by rfl) (a_cons (e_var (pv 0)) (a_cons (e_z z_int) a_nil))) (e_z (z_op op_sub sSub (z_op op_pow sPow z_int z_int) z_int)))))
    (s_cons (s_if (t_cmpE (op_eqD hr.units) sEq (e_op op_mod sMod (e_call c G__law_cell_at hr (by rfl) (a_cons (e_var (pv 0)) (a_cons (e_z z_int) a_nil))) (e_z z_int)) (e_z z_int)) (s_one (s_set (i := 2) sc_law.nd rfl (.inl rfl) (e_z z_int))) s_nil)
    (s_cons (s_if (t_cmpE (op_eqD hr.units) sEq (e_op op_mod sMod (e_call c G__law_cell_at hr (by rfl) (a_cons (e_var (pv 0)) (a_cons (e_z z_int) a_nil))) (e_z z_int)) (e_z z_int)) (s_cons (s_set (i := 1) sc_law.nd rfl (.inl rfl) (e_z (z_op op_sub sSub (z_op op_mod sMod (z_var (pv 1)) z_int) z_int)))
    (s_one (s_set (i := 2) sc_law.nd rfl (.inl rfl) (e_z (z_op op_add sAdd z_int (z_op op_mod sMod (z_var (pv 2)) z_int)))))) s_nil)
    (s_cons (s_set (i := 3) sc_law.nd rfl (.inl rfl) (e_call c G__law_divisor hr (by rfl) (a_cons (e_z (z_callB call_abs sAbs (by rfl) T.abs_ (by decide +kernel) (za_cons (z_var (pv 1)) za_nil))) (a_cons (e_var (pv 2)) a_nil))))
    (s_cons (s_set (i := 1) sc_law.nd rfl (.inl rfl) (e_z (z_op op_fdivW sDiv (z_var (pv 1)) (z_var (pv 3)))))
    (s_cons (s_set (i := 2) sc_law.nd rfl (.inl rfl) (e_z (z_op op_fdivW sDiv (z_var (pv 2)) (z_var (pv 3)))))
    (s_cons (s_set (i := 4) sc_law.nd rfl (.inl rfl) (e_call c G__law_text hr (by rfl) (a_cons (e_var (pv 1)) (a_cons (e_var (pv 2)) a_nil))))
    (s_cons (s_set (i := 5) sc_law.nd rfl (.inl rfl) (e_call c G_number_of hr (by rfl) (a_cons (e_var (pv 4)) a_nil)))
    (s_cons (s_if (PW.pt (t_or (t_not (t_valZ (z_callB call_isi sIsi (by rfl) T.isinstance (by decide +kernel) (za_cons (z_var (pv 5)) (za_cons (z_ty (by rfl) T.tuple_ (by decide +kernel)) za_nil))))) (t_or (t_cmpZ (op_neD hr.units) sNe (z_callB call_len sLen (by rfl) T.len_ (by decide +kernel) (za_cons (z_var (pv 5)) za_nil)) z_int) (t_or (t_not (t_valE (e_call c G__law_whole hr (by rfl) (a_cons (e_z (z_ix ix_seq sIx (z_var (pv 5)) z_int)) a_nil)))) (t_or1 (t_not (t_valE (e_call c G__law_whole hr (by rfl) (a_cons (e_z (z_ix ix_seq sIx (z_var (pv 5)) z_int)) a_nil))))))))) (s_one (s_ret (e_z z_bl))) s_nil)
    (s_cons (s_if (PW.pt (t_or (t_cmpE (op_neD hr.units) sNe (e_var (pv 5)) (e_tup (a_cons (e_var (pv 1)) (a_cons (e_var (pv 2)) a_nil)))) (t_or1 (t_cmpE (op_neD hr.units) sNe (e_call c G_written hr (by rfl) (a_cons (e_tup (a_cons (e_var (pv 1)) (a_cons (e_var (pv 2)) a_nil))) a_nil)) (e_var (pv 4)))))) (s_one (s_ret (e_z z_bl))) s_nil)
    (s_cons (s_set (i := 6) sc_law.nd rfl (.inl rfl) (e_op op_add sAdd (e_z z_int) (e_op op_mod sMod (e_call c G__law_cell_at hr (by rfl) (a_cons (e_var (pv 0)) (a_cons (e_z z_int) a_nil))) (e_z (z_op op_pow sPow z_int z_int)))))
    (s_cons (s_set (i := 7) sc_law.nd rfl (.inl rfl) (e_op op_add sAdd (e_op op_mulA sMulA (e_op op_sub sSub (e_op op_mod sMod (e_call c G__law_cell_at hr (by rfl) (a_cons (e_var (pv 0)) (a_cons (e_z z_int) a_nil))) (e_z (z_op op_mulA sMulA (z_op op_mulA sMulA z_int (z_op op_pow sPow z_int z_int)) (z_op op_pow sPow z_int z_int)))) (e_z (z_op op_mulA sMulA (z_op op_pow sPow z_int z_int) (z_op op_pow sPow z_int z_int)))) (e_var (pv 6))) (e_z z_int)))
    (s_cons (s_set (i := 8) sc_law.nd rfl (.inl rfl) (e_call c G_written hr (by rfl) (a_cons (e_tup (a_cons (e_var (pv 7)) (a_cons (e_var (pv 6)) a_nil))) a_nil)))
    (s_cons (s_if (PW.pt (t_or (t_not (t_valZ (z_callB call_isi sIsi (by rfl) T.isinstance (by decide +kernel) (za_cons (z_var (pv 8)) (za_cons (z_ty (by rfl) T.str_ (by decide +kernel)) za_nil))))) (t_or1 (t_cmpE (op_neD hr.units) sNe (e_var (pv 8)) (e_call c G__law_text hr (by rfl) (a_cons (e_var (pv 7)) (a_cons (e_var (pv 6)) a_nil))))))) (s_one (s_ret (e_z z_bl))) s_nil)
    (s_one (s_ret (e_call c G__law_refused hr (by rfl) (a_cons (e_call c G__law_no_number hr (by rfl) (a_cons (e_op op_mod sMod (e_call c G__law_cell_at hr (by rfl) (a_cons (e_var (pv 0)) (a_cons (e_z z_int) a_nil))) (e_z z_int)) (a_cons (e_call c G__law_cell_at hr (by rfl) (a_cons (e_var (pv 0)) (a_cons (e_z z_int) a_nil))) (a_cons (e_var (pv 4)) (a_cons (e_var (pv 1)) (a_cons (e_var (pv 2)) a_nil)))))) a_nil)))))))))))))))))))
theorem repL_ints {K : PySem.W.Frag} {ca : Str → Addr} {F : Hp} : ∀ ns : List Int, RepL K ca F (ns.map D.int) (ns.map V.int)
  | [] => rfl
  | i :: r => ⟨.int i, r.map V.int, rfl, rfl, repL_ints r⟩
theorem cx_none {P : Program} {w : World} {H : Hp} {s : Shared} {e : Value} {s' : Shared} (h : L2.CX P w [] H s (fun _ _ _ => False) e s') : False := by
  obtain ⟨_, _, _, _, _, _, _, _, _, _, _, _, z⟩ := h
  exact z
def spL (K : PySem.W.Frag) : Sp := fun vs H Q _ => ∃ (a : Addr) (ns : List Int), vs = [.ref a] ∧ ns.length ≤ 63 ∧ SqL K H a (ns.map V.int) ∧ ∀ H', Q (.bl true) H'
theorem sp_law {K : PySem.W.Frag} {ca : Str → Addr} (hl : ∀ ns : List Int, ns.length ≤ 63 → f_law [.cst (ns.map D.int)] = .ok (.bl true)) (vs : List V) (H : Hp) (Q : VK) (E : XK) (h : spL K vs H Q E) : spP K ca f_law vs H Q E := by
  obtain ⟨a, ns, rfl, hn, hS, q⟩ := h
  refine ⟨H, [.cst (ns.map D.int)], Same.refl _, ⟨.ref a, [], rfl, ⟨a, _, rfl, hS, repL_ints ns⟩, rfl⟩, ?_⟩
  rw [hl ns hn]
  intro v F' H' f _ _ _ hv _ _ _
  cases (show v = .bl true from hv.1)
  exact q H'
--ALLMK
set_option maxHeartbeats 0 in
theorem all_mk {l : PySem.W.OpenLaw} {w : World} {K : PySem.W.Frag} {h : Heap} {mg : Str → Option Value} {fa f0 f1 f2 f3 f4 f5 f6 f7 f8 f9 f10 f11 f12 : Addr} (X : K.In h) (G : h.Ns mainGlobals mg) (hfa : mg "law" = some (.ref fa))
    {od0 an0 : Option Addr} {sl0 : Array (Option Value)} {oc0 kV0 dc0 pm0 cd0 ct0 : Value} (a0 : PySem.W.nsIn K mainGlobals "_law_divisor" = some (some (.ref f0))) (l0 : K.lookup f0 = some ⟨oc0, od0, .func (PySem.W.fnOf "_law_divisor" "_law_divisor" (defArgs s__law_divisor) (defBody s__law_divisor) (defScope s__law_divisor) .none kV0 dc0 pm0 an0 cd0 ct0), sl0⟩) (c0 : PySem.W.codeIn K cd0 "_law_divisor" = true) (k0 : PySem.W.keepIn K (.ref f0) = true)
    {od1 an1 : Option Addr} {sl1 : Array (Option Value)} {oc1 kV1 dc1 pm1 cd1 ct1 : Value} (a1 : PySem.W.nsIn K mainGlobals "_law_text" = some (some (.ref f1))) (l1 : K.lookup f1 = some ⟨oc1, od1, .func (PySem.W.fnOf "_law_text" "_law_text" (defArgs s__law_text) (defBody s__law_text) (defScope s__law_text) .none kV1 dc1 pm1 an1 cd1 ct1), sl1⟩) (c1 : PySem.W.codeIn K cd1 "_law_text" = true) (k1 : PySem.W.keepIn K (.ref f1) = true)
    {od2 an2 : Option Addr} {sl2 : Array (Option Value)} {oc2 kV2 dc2 pm2 cd2 ct2 : Value} (a2 : PySem.W.nsIn K mainGlobals "whole_of" = some (some (.ref f2))) (l2 : K.lookup f2 = some ⟨oc2, od2, .func (PySem.W.fnOf "whole_of" "whole_of" (defArgs s_whole_of) (defBody s_whole_of) (defScope s_whole_of) .none kV2 dc2 pm2 an2 cd2 ct2), sl2⟩) (c2 : PySem.W.codeIn K cd2 "whole_of" = true) (k2 : PySem.W.keepIn K (.ref f2) = true)
    {od3 an3 : Option Addr} {sl3 : Array (Option Value)} {oc3 kV3 dc3 pm3 cd3 ct3 : Value} (a3 : PySem.W.nsIn K mainGlobals "divisor" = some (some (.ref f3))) (l3 : K.lookup f3 = some ⟨oc3, od3, .func (PySem.W.fnOf "divisor" "divisor" (defArgs s_divisor) (defBody s_divisor) (defScope s_divisor) .none kV3 dc3 pm3 an3 cd3 ct3), sl3⟩) (c3 : PySem.W.codeIn K cd3 "divisor" = true) (k3 : PySem.W.keepIn K (.ref f3) = true)
    {od4 an4 : Option Addr} {sl4 : Array (Option Value)} {oc4 kV4 dc4 pm4 cd4 ct4 : Value} (a4 : PySem.W.nsIn K mainGlobals "fraction" = some (some (.ref f4))) (l4 : K.lookup f4 = some ⟨oc4, od4, .func (PySem.W.fnOf "fraction" "fraction" (defArgs s_fraction) (defBody s_fraction) (defScope s_fraction) .none kV4 dc4 pm4 an4 cd4 ct4), sl4⟩) (c4 : PySem.W.codeIn K cd4 "fraction" = true) (k4 : PySem.W.keepIn K (.ref f4) = true)
    {od5 an5 : Option Addr} {sl5 : Array (Option Value)} {oc5 kV5 dc5 pm5 cd5 ct5 : Value} (a5 : PySem.W.nsIn K mainGlobals "number_of" = some (some (.ref f5))) (l5 : K.lookup f5 = some ⟨oc5, od5, .func (PySem.W.fnOf "number_of" "number_of" (defArgs s_number_of) (defBody s_number_of) (defScope s_number_of) .none kV5 dc5 pm5 an5 cd5 ct5), sl5⟩) (c5 : PySem.W.codeIn K cd5 "number_of" = true) (k5 : PySem.W.keepIn K (.ref f5) = true)
    {od6 an6 : Option Addr} {sl6 : Array (Option Value)} {oc6 kV6 dc6 pm6 cd6 ct6 : Value} (a6 : PySem.W.nsIn K mainGlobals "written" = some (some (.ref f6))) (l6 : K.lookup f6 = some ⟨oc6, od6, .func (PySem.W.fnOf "written" "written" (defArgs s_written) (defBody s_written) (defScope s_written) .none kV6 dc6 pm6 an6 cd6 ct6), sl6⟩) (c6 : PySem.W.codeIn K cd6 "written" = true) (k6 : PySem.W.keepIn K (.ref f6) = true)
    {od7 an7 : Option Addr} {sl7 : Array (Option Value)} {oc7 kV7 dc7 pm7 cd7 ct7 : Value} (a7 : PySem.W.nsIn K mainGlobals "_law_other" = some (some (.ref f7))) (l7 : K.lookup f7 = some ⟨oc7, od7, .func (PySem.W.fnOf "_law_other" "_law_other" (defArgs s__law_other) (defBody s__law_other) (defScope s__law_other) .none kV7 dc7 pm7 an7 cd7 ct7), sl7⟩) (c7 : PySem.W.codeIn K cd7 "_law_other" = true) (k7 : PySem.W.keepIn K (.ref f7) = true)
    {od8 an8 : Option Addr} {sl8 : Array (Option Value)} {oc8 kV8 dc8 pm8 cd8 ct8 : Value} (a8 : PySem.W.nsIn K mainGlobals "_law_refused" = some (some (.ref f8))) (l8 : K.lookup f8 = some ⟨oc8, od8, .func (PySem.W.fnOf "_law_refused" "_law_refused" (defArgs s__law_refused) (defBody s__law_refused) (defScope s__law_refused) .none kV8 dc8 pm8 an8 cd8 ct8), sl8⟩) (c8 : PySem.W.codeIn K cd8 "_law_refused" = true) (k8 : PySem.W.keepIn K (.ref f8) = true)
    {od9 an9 : Option Addr} {sl9 : Array (Option Value)} {oc9 kV9 dc9 pm9 cd9 ct9 : Value} (a9 : PySem.W.nsIn K mainGlobals "_law_no_number" = some (some (.ref f9))) (l9 : K.lookup f9 = some ⟨oc9, od9, .func (PySem.W.fnOf "_law_no_number" "_law_no_number" (defArgs s__law_no_number) (defBody s__law_no_number) (defScope s__law_no_number) .none kV9 dc9 pm9 an9 cd9 ct9), sl9⟩) (c9 : PySem.W.codeIn K cd9 "_law_no_number" = true) (k9 : PySem.W.keepIn K (.ref f9) = true)
    {od10 an10 : Option Addr} {sl10 : Array (Option Value)} {oc10 kV10 dc10 pm10 cd10 ct10 : Value} (a10 : PySem.W.nsIn K mainGlobals "_law_cell_at" = some (some (.ref f10))) (l10 : K.lookup f10 = some ⟨oc10, od10, .func (PySem.W.fnOf "_law_cell_at" "_law_cell_at" (defArgs s__law_cell_at) (defBody s__law_cell_at) (defScope s__law_cell_at) .none kV10 dc10 pm10 an10 cd10 ct10), sl10⟩) (c10 : PySem.W.codeIn K cd10 "_law_cell_at" = true) (k10 : PySem.W.keepIn K (.ref f10) = true)
    {od11 an11 : Option Addr} {sl11 : Array (Option Value)} {oc11 kV11 dc11 pm11 cd11 ct11 : Value} (a11 : PySem.W.nsIn K mainGlobals "_law_whole" = some (some (.ref f11))) (l11 : K.lookup f11 = some ⟨oc11, od11, .func (PySem.W.fnOf "_law_whole" "_law_whole" (defArgs s__law_whole) (defBody s__law_whole) (defScope s__law_whole) .none kV11 dc11 pm11 an11 cd11 ct11), sl11⟩) (c11 : PySem.W.codeIn K cd11 "_law_whole" = true) (k11 : PySem.W.keepIn K (.ref f11) = true)
    {od12 an12 : Option Addr} {sl12 : Array (Option Value)} {oc12 kV12 dc12 pm12 cd12 ct12 : Value} (a12 : PySem.W.nsIn K mainGlobals "law" = some (some (.ref f12))) (l12 : K.lookup f12 = some ⟨oc12, od12, .func (PySem.W.fnOf "law" "law" (defArgs s_law) (defBody s_law) (defScope s_law) .none kV12 dc12 pm12 an12 cd12 ct12), sl12⟩) (c12 : PySem.W.codeIn K cd12 "law" = true) (k12 : PySem.W.keepIn K (.ref f12) = true)
    (z_ValueError : PySem.W.nsIn K mainGlobals "ValueError" = some none)
    (z_abs_ : PySem.W.nsIn K mainGlobals "abs" = some none)
    (z_bool_ : PySem.W.nsIn K mainGlobals "bool" = some none)
    (z_int_ : PySem.W.nsIn K mainGlobals "int" = some none)
    (z_isinstance : PySem.W.nsIn K mainGlobals "isinstance" = some none)
    (z_len_ : PySem.W.nsIn K mainGlobals "len" = some none)
    (z_str_ : PySem.W.nsIn K mainGlobals "str" = some none)
    (z_tuple_ : PySem.W.nsIn K mainGlobals "tuple" = some none)
    {tk_FIGURES : Tok} (v_FIGURES : PySem.W.nsIn K mainGlobals "FIGURES" = some (some (.str "0123456789" tk_FIGURES)))
    {a_BoxError : Addr} (g_BoxError : PySem.W.nsIn K mainGlobals "BoxError" = some (some (.ref a_BoxError)))
    {a_NoNumber : Addr} (g_NoNumber : PySem.W.nsIn K mainGlobals "NoNumber" = some (some (.ref a_NoNumber)))
    {a_NoRow : Addr} (g_NoRow : PySem.W.nsIn K mainGlobals "NoRow" = some (some (.ref a_NoRow)))
    {a_NoBook : Addr} (g_NoBook : PySem.W.nsIn K mainGlobals "NoBook" = some (some (.ref a_NoBook)))
    {a_NoCut : Addr} (g_NoCut : PySem.W.nsIn K mainGlobals "NoCut" = some (some (.ref a_NoCut)))
    {a_NoName : Addr} (g_NoName : PySem.W.nsIn K mainGlobals "NoName" = some (some (.ref a_NoName)))
    {a_NoSpan : Addr} (g_NoSpan : PySem.W.nsIn K mainGlobals "NoSpan" = some (some (.ref a_NoSpan)))
    {a_NoTask : Addr} (g_NoTask : PySem.W.nsIn K mainGlobals "NoTask" = some (some (.ref a_NoTask)))
    {a_TooMuch : Addr} (g_TooMuch : PySem.W.nsIn K mainGlobals "TooMuch" = some (some (.ref a_TooMuch)))
    (p_BoxError : PySem.W.keepIn K (.ref a_BoxError) = true) (q_BoxError : PySem.W.excIn K a_BoxError [.type "ValueError", .type "Exception", .type "BaseException", .type "object"] "ValueError.__new__" = true) (r_BoxError : PySem.W.subIn K (.ref a_BoxError) (.type "BaseException") = some true) (t_BoxError : PySem.W.typeIn K (.ref a_BoxError) = some (.type "type"))
    (p_NoNumber : PySem.W.keepIn K (.ref a_NoNumber) = true) (q_NoNumber : PySem.W.excIn K a_NoNumber [.type "ValueError", .type "Exception", .type "BaseException", .type "object"] "ValueError.__new__" = true) (r_NoNumber : PySem.W.subIn K (.ref a_NoNumber) (.type "BaseException") = some true) (t_NoNumber : PySem.W.typeIn K (.ref a_NoNumber) = some (.type "type"))
    (p_NoRow : PySem.W.keepIn K (.ref a_NoRow) = true) (q_NoRow : PySem.W.excIn K a_NoRow [.type "ValueError", .type "Exception", .type "BaseException", .type "object"] "ValueError.__new__" = true) (r_NoRow : PySem.W.subIn K (.ref a_NoRow) (.type "BaseException") = some true) (t_NoRow : PySem.W.typeIn K (.ref a_NoRow) = some (.type "type"))
    (m_NoNumber_BoxError : PySem.W.exmOne K (.ref a_NoNumber) (.ref a_BoxError) = some true)
    (m_NoRow_BoxError : PySem.W.exmOne K (.ref a_NoRow) (.ref a_BoxError) = some true)
    (o_NoNumber_NoBook : PySem.W.kitOne K (.ref a_NoNumber) (.ref a_NoBook) = some false)
    (o_NoRow_NoBook : PySem.W.kitOne K (.ref a_NoRow) (.ref a_NoBook) = some false)
    (o_NoNumber_NoCut : PySem.W.kitOne K (.ref a_NoNumber) (.ref a_NoCut) = some false)
    (o_NoRow_NoCut : PySem.W.kitOne K (.ref a_NoRow) (.ref a_NoCut) = some false)
    (o_NoNumber_NoName : PySem.W.kitOne K (.ref a_NoNumber) (.ref a_NoName) = some false)
    (o_NoRow_NoName : PySem.W.kitOne K (.ref a_NoRow) (.ref a_NoName) = some false)
    (o_NoNumber_NoNumber : PySem.W.kitOne K (.ref a_NoNumber) (.ref a_NoNumber) = some true)
    (o_NoRow_NoNumber : PySem.W.kitOne K (.ref a_NoRow) (.ref a_NoNumber) = some false)
    (o_NoNumber_NoRow : PySem.W.kitOne K (.ref a_NoNumber) (.ref a_NoRow) = some false)
    (o_NoRow_NoRow : PySem.W.kitOne K (.ref a_NoRow) (.ref a_NoRow) = some true)
    (o_NoNumber_NoSpan : PySem.W.kitOne K (.ref a_NoNumber) (.ref a_NoSpan) = some false)
    (o_NoRow_NoSpan : PySem.W.kitOne K (.ref a_NoRow) (.ref a_NoSpan) = some false)
    (o_NoNumber_NoTask : PySem.W.kitOne K (.ref a_NoNumber) (.ref a_NoTask) = some false)
    (o_NoRow_NoTask : PySem.W.kitOne K (.ref a_NoRow) (.ref a_NoTask) = some false)
    (o_NoNumber_TooMuch : PySem.W.kitOne K (.ref a_NoNumber) (.ref a_TooMuch) = some false)
    (o_NoRow_TooMuch : PySem.W.kitOne K (.ref a_NoRow) (.ref a_TooMuch) = some false)
    (o_NoNumber_ValueError : PySem.W.kitOne K (.ref a_NoNumber) (.type "ValueError") = some true)
    (o_NoRow_ValueError : PySem.W.kitOne K (.ref a_NoRow) (.type "ValueError") = some true)
    (e_NoNumber : ExcC K a_NoNumber)
    (e_NoRow : ExcC K a_NoRow)
    : ∃ fd : FuncData, (∀ (s : Shared) (v : Value), BindsTo s fd ⟨[v], []⟩ [("_law_script", v)]) ∧ ∀ base : Heap, K.In base → base.Ns mainGlobals mg → FnOk l.prog w K mg base (L2.CX l.prog w) 5 fa fd ["_law_script"] (spL K) := by
  have e := hfa.symm.trans (PySem.W.mg_of X G a12)
  cases e
  have F0 := fun_mk (st := s__law_divisor) l0 c0 k0
  have b0 := F0.binds (ps := ["_law_a", "_law_b"]) fun _ _ _ _ _ _ us hl => match us, hl with | [_, _], _ => rfl
  have F1 := fun_mk (st := s__law_text) l1 c1 k1
  have b1 := F1.binds (ps := ["_law_top", "_law_bottom"]) fun _ _ _ _ _ _ us hl => match us, hl with | [_, _], _ => rfl
  have F2 := fun_mk (st := s_whole_of) l2 c2 k2
  have b2 := F2.binds (ps := ["figures"]) fun _ _ _ _ _ _ us hl => match us, hl with | [_], _ => rfl
  have F3 := fun_mk (st := s_divisor) l3 c3 k3
  have b3 := F3.binds (ps := ["a", "b"]) fun _ _ _ _ _ _ us hl => match us, hl with | [_, _], _ => rfl
  have F4 := fun_mk (st := s_fraction) l4 c4 k4
  have b4 := F4.binds (ps := ["top", "bottom"]) fun _ _ _ _ _ _ us hl => match us, hl with | [_, _], _ => rfl
  have F5 := fun_mk (st := s_number_of) l5 c5 k5
  have b5 := F5.binds (ps := ["word"]) fun _ _ _ _ _ _ us hl => match us, hl with | [_], _ => rfl
  have F6 := fun_mk (st := s_written) l6 c6 k6
  have b6 := F6.binds (ps := ["a"]) fun _ _ _ _ _ _ us hl => match us, hl with | [_], _ => rfl
  have F7 := fun_mk (st := s__law_other) l7 c7 k7
  have b7 := F7.binds (ps := ["_law_e"]) fun _ _ _ _ _ _ us hl => match us, hl with | [_], _ => rfl
  have F8 := fun_mk (st := s__law_refused) l8 c8 k8
  have b8 := F8.binds (ps := ["_law_word"]) fun _ _ _ _ _ _ us hl => match us, hl with | [_], _ => rfl
  have F9 := fun_mk (st := s__law_no_number) l9 c9 k9
  have b9 := F9.binds (ps := ["_law_way", "_law_cell", "_law_text_here", "_law_top", "_law_bottom"]) fun _ _ _ _ _ _ us hl => match us, hl with | [_, _, _, _, _], _ => rfl
  have F10 := fun_mk (st := s__law_cell_at) l10 c10 k10
  have b10 := F10.binds (ps := ["_law_script", "_law_k"]) fun _ _ _ _ _ _ us hl => match us, hl with | [_, _], _ => rfl
  have F11 := fun_mk (st := s__law_whole) l11 c11 k11
  have b11 := F11.binds (ps := ["_law_found"]) fun _ _ _ _ _ _ us hl => match us, hl with | [_], _ => rfl
  have F12 := fun_mk (st := s_law) l12 c12 k12
  have b12 := F12.binds (ps := ["_law_script"]) fun _ _ _ _ _ _ us hl => match us, hl with | [_], _ => rfl
  have T : Tx K mg (caF a_BoxError a_NoNumber a_NoRow a_NoBook a_NoCut a_NoName a_NoSpan a_NoTask a_TooMuch) := { ValueError := PySem.W.mg_none_of X G z_ValueError, abs_ := PySem.W.mg_none_of X G z_abs_, bool_ := PySem.W.mg_none_of X G z_bool_, int_ := PySem.W.mg_none_of X G z_int_, isinstance := PySem.W.mg_none_of X G z_isinstance, len_ := PySem.W.mg_none_of X G z_len_, str_ := PySem.W.mg_none_of X G z_str_, tuple_ := PySem.W.mg_none_of X G z_tuple_, k_FIGURES := kc_str (PySem.W.mg_of X G v_FIGURES), xg_NoBook := PySem.W.mg_of X G g_NoBook, xg_NoCut := PySem.W.mg_of X G g_NoCut, xg_NoName := PySem.W.mg_of X G g_NoName, xg_NoNumber := PySem.W.mg_of X G g_NoNumber, xg_NoRow := PySem.W.mg_of X G g_NoRow, xg_NoSpan := PySem.W.mg_of X G g_NoSpan, xg_NoTask := PySem.W.mg_of X G g_NoTask, xg_TooMuch := PySem.W.mg_of X G g_TooMuch, x_BoxError := ⟨PySem.W.mg_of X G g_BoxError, p_BoxError, q_BoxError, r_BoxError, t_BoxError⟩, x_NoNumber := ⟨PySem.W.mg_of X G g_NoNumber, p_NoNumber, q_NoNumber, r_NoNumber, t_NoNumber⟩, x_NoRow := ⟨PySem.W.mg_of X G g_NoRow, p_NoRow, q_NoRow, r_NoRow, t_NoRow⟩, h_BoxError := fun y t h => (by unfold sub_BoxError at h; by_cases e0 : y = "NoNumber"; (subst e0; simp only [String.reduceEq, if_true, if_false] at h; cases h; exact m_NoNumber_BoxError); rw [if_neg e0] at h; by_cases e1 : y = "NoRow"; (subst e1; simp only [String.reduceEq, if_true, if_false] at h; cases h; exact m_NoRow_BoxError); rw [if_neg e1] at h; cases h), n_BoxError := .inl (PySem.W.mg_of X G g_BoxError), i_NoBook := fun y t h => (by unfold is_NoBook at h; by_cases e0 : y = "NoNumber"; (subst e0; simp only [String.reduceEq, if_true, if_false] at h; cases h; exact ⟨e_NoNumber, o_NoNumber_NoBook⟩); rw [if_neg e0] at h; by_cases e1 : y = "NoRow"; (subst e1; simp only [String.reduceEq, if_true, if_false] at h; cases h; exact ⟨e_NoRow, o_NoRow_NoBook⟩); rw [if_neg e1] at h; cases h), i_NoCut := fun y t h => (by unfold is_NoCut at h; by_cases e0 : y = "NoNumber"; (subst e0; simp only [String.reduceEq, if_true, if_false] at h; cases h; exact ⟨e_NoNumber, o_NoNumber_NoCut⟩); rw [if_neg e0] at h; by_cases e1 : y = "NoRow"; (subst e1; simp only [String.reduceEq, if_true, if_false] at h; cases h; exact ⟨e_NoRow, o_NoRow_NoCut⟩); rw [if_neg e1] at h; cases h), i_NoName := fun y t h => (by unfold is_NoName at h; by_cases e0 : y = "NoNumber"; (subst e0; simp only [String.reduceEq, if_true, if_false] at h; cases h; exact ⟨e_NoNumber, o_NoNumber_NoName⟩); rw [if_neg e0] at h; by_cases e1 : y = "NoRow"; (subst e1; simp only [String.reduceEq, if_true, if_false] at h; cases h; exact ⟨e_NoRow, o_NoRow_NoName⟩); rw [if_neg e1] at h; cases h), i_NoNumber := fun y t h => (by unfold is_NoNumber at h; by_cases e0 : y = "NoNumber"; (subst e0; simp only [String.reduceEq, if_true, if_false] at h; cases h; exact ⟨e_NoNumber, o_NoNumber_NoNumber⟩); rw [if_neg e0] at h; by_cases e1 : y = "NoRow"; (subst e1; simp only [String.reduceEq, if_true, if_false] at h; cases h; exact ⟨e_NoRow, o_NoRow_NoNumber⟩); rw [if_neg e1] at h; cases h), i_NoRow := fun y t h => (by unfold is_NoRow at h; by_cases e0 : y = "NoNumber"; (subst e0; simp only [String.reduceEq, if_true, if_false] at h; cases h; exact ⟨e_NoNumber, o_NoNumber_NoRow⟩); rw [if_neg e0] at h; by_cases e1 : y = "NoRow"; (subst e1; simp only [String.reduceEq, if_true, if_false] at h; cases h; exact ⟨e_NoRow, o_NoRow_NoRow⟩); rw [if_neg e1] at h; cases h), i_NoSpan := fun y t h => (by unfold is_NoSpan at h; by_cases e0 : y = "NoNumber"; (subst e0; simp only [String.reduceEq, if_true, if_false] at h; cases h; exact ⟨e_NoNumber, o_NoNumber_NoSpan⟩); rw [if_neg e0] at h; by_cases e1 : y = "NoRow"; (subst e1; simp only [String.reduceEq, if_true, if_false] at h; cases h; exact ⟨e_NoRow, o_NoRow_NoSpan⟩); rw [if_neg e1] at h; cases h), i_NoTask := fun y t h => (by unfold is_NoTask at h; by_cases e0 : y = "NoNumber"; (subst e0; simp only [String.reduceEq, if_true, if_false] at h; cases h; exact ⟨e_NoNumber, o_NoNumber_NoTask⟩); rw [if_neg e0] at h; by_cases e1 : y = "NoRow"; (subst e1; simp only [String.reduceEq, if_true, if_false] at h; cases h; exact ⟨e_NoRow, o_NoRow_NoTask⟩); rw [if_neg e1] at h; cases h), i_TooMuch := fun y t h => (by unfold is_TooMuch at h; by_cases e0 : y = "NoNumber"; (subst e0; simp only [String.reduceEq, if_true, if_false] at h; cases h; exact ⟨e_NoNumber, o_NoNumber_TooMuch⟩); rw [if_neg e0] at h; by_cases e1 : y = "NoRow"; (subst e1; simp only [String.reduceEq, if_true, if_false] at h; cases h; exact ⟨e_NoRow, o_NoRow_TooMuch⟩); rw [if_neg e1] at h; cases h), i_ValueError := fun y t h => (by unfold is_ValueError at h; by_cases e0 : y = "NoNumber"; (subst e0; simp only [String.reduceEq, if_true, if_false] at h; cases h; exact ⟨e_NoNumber, o_NoNumber_ValueError⟩); rw [if_neg e0] at h; by_cases e1 : y = "NoRow"; (subst e1; simp only [String.reduceEq, if_true, if_false] at h; cases h; exact ⟨e_NoRow, o_NoRow_ValueError⟩); rw [if_neg e1] at h; cases h) }
  refine ⟨PySem.W.fnOf "law" "law" (defArgs s_law) (defBody s_law) (defScope s_law) .none kV12 dc12 pm12 an12 cd12 ct12, fun s v => .of_eq rfl, fun base _ _ => ?_⟩
  have G__law_divisor : Fo l.prog w K mg base (caF a_BoxError a_NoNumber a_NoRow a_NoBook a_NoCut a_NoName a_NoSpan a_NoTask a_TooMuch) 1 "_law_divisor" f__law_divisor := fo_of F0 (PySem.W.mg_of X G a0) b0 (ok__law_divisor T  F0)
  have G__law_text : Fo l.prog w K mg base (caF a_BoxError a_NoNumber a_NoRow a_NoBook a_NoCut a_NoName a_NoSpan a_NoTask a_TooMuch) 1 "_law_text" f__law_text := fo_of F1 (PySem.W.mg_of X G a1) b1 (ok__law_text T  F1)
  have G_whole_of : Fo l.prog w K mg base (caF a_BoxError a_NoNumber a_NoRow a_NoBook a_NoCut a_NoName a_NoSpan a_NoTask a_TooMuch) 1 "whole_of" f_whole_of := fo_of F2 (PySem.W.mg_of X G a2) b2 (ok_whole_of T  F2)
  have G_divisor : Fo l.prog w K mg base (caF a_BoxError a_NoNumber a_NoRow a_NoBook a_NoCut a_NoName a_NoSpan a_NoTask a_TooMuch) 1 "divisor" f_divisor := fo_of F3 (PySem.W.mg_of X G a3) b3 (ok_divisor T  F3)
  have G_fraction : Fo l.prog w K mg base (caF a_BoxError a_NoNumber a_NoRow a_NoBook a_NoCut a_NoName a_NoSpan a_NoTask a_TooMuch) 2 "fraction" f_fraction := fo_of F4 (PySem.W.mg_of X G a4) b4 (ok_fraction T G_divisor F4)
  have G_number_of : Fo l.prog w K mg base (caF a_BoxError a_NoNumber a_NoRow a_NoBook a_NoCut a_NoName a_NoSpan a_NoTask a_TooMuch) 3 "number_of" f_number_of := fo_of F5 (PySem.W.mg_of X G a5) b5 (ok_number_of T G_whole_of G_fraction F5)
  have G_written : Fo l.prog w K mg base (caF a_BoxError a_NoNumber a_NoRow a_NoBook a_NoCut a_NoName a_NoSpan a_NoTask a_TooMuch) 1 "written" f_written := fo_of F6 (PySem.W.mg_of X G a6) b6 (ok_written T  F6)
  have H__law_other : Ho l.prog w K mg base (caF a_BoxError a_NoNumber a_NoRow a_NoBook a_NoCut a_NoName a_NoSpan a_NoTask a_TooMuch) 1 "_law_other" ho__law_other := ho_of F7 (PySem.W.mg_of X G a7) b7 fun a oe y hz hv => ok__law_other T F7 hz hv
  have G__law_refused : Fo l.prog w K mg base (caF a_BoxError a_NoNumber a_NoRow a_NoBook a_NoCut a_NoName a_NoSpan a_NoTask a_TooMuch) 4 "_law_refused" f__law_refused := fo_of F8 (PySem.W.mg_of X G a8) b8 (ok__law_refused T G_number_of H__law_other F8)
  have G__law_no_number : Fo l.prog w K mg base (caF a_BoxError a_NoNumber a_NoRow a_NoBook a_NoCut a_NoName a_NoSpan a_NoTask a_TooMuch) 1 "_law_no_number" f__law_no_number := fo_of F9 (PySem.W.mg_of X G a9) b9 (ok__law_no_number T  F9)
  have G__law_cell_at : Fo l.prog w K mg base (caF a_BoxError a_NoNumber a_NoRow a_NoBook a_NoCut a_NoName a_NoSpan a_NoTask a_TooMuch) 1 "_law_cell_at" f__law_cell_at := fo_of F10 (PySem.W.mg_of X G a10) b10 (ok__law_cell_at T  F10)
  have G__law_whole : Fo l.prog w K mg base (caF a_BoxError a_NoNumber a_NoRow a_NoBook a_NoCut a_NoName a_NoSpan a_NoTask a_TooMuch) 1 "_law_whole" f__law_whole := fo_of F11 (PySem.W.mg_of X G a11) b11 (ok__law_whole T  F11)
  exact (ok_law T G__law_divisor G__law_text G_number_of G_written G__law_refused G__law_no_number G__law_cell_at G__law_whole F12).imp fun vs H Q E hs => sp_law law_true vs H Q E hs
end
end Lw
open PySem PySem.W PyProof.Rows
set_option maxHeartbeats 0 in
theorem PySem.Challenge.cw_boxnarrow_k11_numbers_written_holds : PySem.Challenge.rw_boxnarrow_k11_numbers_written.Holds := by
  w_on; o_law; k_head; (case hw => w_witness2)
  k_fill
  refine L2.walk_of (l := PySem.Challenge.rw_boxnarrow_k11_numbers_written) (n := 63) (k := 5) (x := "_law_script") (CX := fun w => L2.CX PySem.Challenge.rw_boxnarrow_k11_numbers_written.prog w) (sp := fun w => Lw.spL _) rfl (by decide) rfl ⟨rfl, by decide, by decide⟩ (fun w h Y => PySem.W.kIn_of Y) ?F (fun _ H a ns hl _ hS => ⟨a, ns, rfl, hl, hS, fun _ => rfl⟩) (fun _ _ _ _ _ h => Lw.cx_none h)
  case F =>
    intro w mg fa h KX G hmg
    refine' Lw.all_mk KX G hmg ?a0 ?l0 ?c0 ?k0 ?a1 ?l1 ?c1 ?k1 ?a2 ?l2 ?c2 ?k2 ?a3 ?l3 ?c3 ?k3 ?a4 ?l4 ?c4 ?k4 ?a5 ?l5 ?c5 ?k5 ?a6 ?l6 ?c6 ?k6 ?a7 ?l7 ?c7 ?k7 ?a8 ?l8 ?c8 ?k8 ?a9 ?l9 ?c9 ?k9 ?a10 ?l10 ?c10 ?k10 ?a11 ?l11 ?c11 ?k11 ?a12 ?l12 ?c12 ?k12 ?z_ValueError ?z_abs_ ?z_bool_ ?z_int_ ?z_isinstance ?z_len_ ?z_str_ ?z_tuple_ ?v_FIGURES ?g_BoxError ?g_NoNumber ?g_NoRow ?g_NoBook ?g_NoCut ?g_NoName ?g_NoSpan ?g_NoTask ?g_TooMuch ?p_BoxError ?q_BoxError ?r_BoxError ?t_BoxError ?p_NoNumber ?q_NoNumber ?r_NoNumber ?t_NoNumber ?p_NoRow ?q_NoRow ?r_NoRow ?t_NoRow ?m_NoNumber_BoxError ?m_NoRow_BoxError ?o_NoNumber_NoBook ?o_NoRow_NoBook ?o_NoNumber_NoCut ?o_NoRow_NoCut ?o_NoNumber_NoName ?o_NoRow_NoName ?o_NoNumber_NoNumber ?o_NoRow_NoNumber ?o_NoNumber_NoRow ?o_NoRow_NoRow ?o_NoNumber_NoSpan ?o_NoRow_NoSpan ?o_NoNumber_NoTask ?o_NoRow_NoTask ?o_NoNumber_TooMuch ?o_NoRow_TooMuch ?o_NoNumber_ValueError ?o_NoRow_ValueError ?e_NoNumber ?e_NoRow
    (case g_BoxError => k_is); (case g_NoNumber => k_is); (case g_NoRow => k_is); (case g_NoBook => k_is); (case g_NoCut => k_is); (case g_NoName => k_is); (case g_NoSpan => k_is); (case g_NoTask => k_is); (case g_TooMuch => k_is); (case a0 => k_is); (case l0 => k_is); (case c0 => k_is); (case k0 => k_is); (case a1 => k_is); (case l1 => k_is); (case c1 => k_is); (case k1 => k_is); (case a2 => k_is); (case l2 => k_is); (case c2 => k_is); (case k2 => k_is); (case a3 => k_is); (case l3 => k_is); (case c3 => k_is); (case k3 => k_is); (case a4 => k_is); (case l4 => k_is); (case c4 => k_is); (case k4 => k_is); (case a5 => k_is); (case l5 => k_is); (case c5 => k_is); (case k5 => k_is); (case a6 => k_is); (case l6 => k_is); (case c6 => k_is); (case k6 => k_is); (case a7 => k_is); (case l7 => k_is); (case c7 => k_is); (case k7 => k_is); (case a8 => k_is); (case l8 => k_is); (case c8 => k_is); (case k8 => k_is); (case a9 => k_is); (case l9 => k_is); (case c9 => k_is); (case k9 => k_is); (case a10 => k_is); (case l10 => k_is); (case c10 => k_is); (case k10 => k_is); (case a11 => k_is); (case l11 => k_is); (case c11 => k_is); (case k11 => k_is); (case a12 => k_is); (case l12 => k_is); (case c12 => k_is); (case k12 => k_is); (case z_ValueError => k_is); (case z_abs_ => k_is); (case z_bool_ => k_is); (case z_int_ => k_is); (case z_isinstance => k_is); (case z_len_ => k_is); (case z_str_ => k_is); (case z_tuple_ => k_is); (case v_FIGURES => k_is); (case p_BoxError => k_is); (case q_BoxError => k_exc); (case r_BoxError => k_is); (case t_BoxError => k_is); (case p_NoNumber => k_is); (case q_NoNumber => k_exc); (case r_NoNumber => k_is); (case t_NoNumber => k_is); (case p_NoRow => k_is); (case q_NoRow => k_exc); (case r_NoRow => k_is); (case t_NoRow => k_is); (case m_NoNumber_BoxError => exact PySem.W.exm_ref (by k_is) (by k_is) (by k_is) (by k_is)); (case m_NoRow_BoxError => exact PySem.W.exm_ref (by k_is) (by k_is) (by k_is) (by k_is)); (case o_NoNumber_NoBook => exact Bn.kit_ref (by k_is) (by k_is) (by k_is) (by first | exact .inl rfl | exact .inr (by decide))); (case o_NoRow_NoBook => exact Bn.kit_ref (by k_is) (by k_is) (by k_is) (by first | exact .inl rfl | exact .inr (by decide))); (case o_NoNumber_NoCut => exact Bn.kit_ref (by k_is) (by k_is) (by k_is) (by first | exact .inl rfl | exact .inr (by decide))); (case o_NoRow_NoCut => exact Bn.kit_ref (by k_is) (by k_is) (by k_is) (by first | exact .inl rfl | exact .inr (by decide))); (case o_NoNumber_NoName => exact Bn.kit_ref (by k_is) (by k_is) (by k_is) (by first | exact .inl rfl | exact .inr (by decide))); (case o_NoRow_NoName => exact Bn.kit_ref (by k_is) (by k_is) (by k_is) (by first | exact .inl rfl | exact .inr (by decide))); (case o_NoNumber_NoNumber => exact Bn.kit_same); (case o_NoRow_NoNumber => exact Bn.kit_ref (by k_is) (by k_is) (by k_is) (by first | exact .inl rfl | exact .inr (by decide))); (case o_NoNumber_NoRow => exact Bn.kit_ref (by k_is) (by k_is) (by k_is) (by first | exact .inl rfl | exact .inr (by decide))); (case o_NoRow_NoRow => exact Bn.kit_same); (case o_NoNumber_NoSpan => exact Bn.kit_ref (by k_is) (by k_is) (by k_is) (by first | exact .inl rfl | exact .inr (by decide))); (case o_NoRow_NoSpan => exact Bn.kit_ref (by k_is) (by k_is) (by k_is) (by first | exact .inl rfl | exact .inr (by decide))); (case o_NoNumber_NoTask => exact Bn.kit_ref (by k_is) (by k_is) (by k_is) (by first | exact .inl rfl | exact .inr (by decide))); (case o_NoRow_NoTask => exact Bn.kit_ref (by k_is) (by k_is) (by k_is) (by first | exact .inl rfl | exact .inr (by decide))); (case o_NoNumber_TooMuch => exact Bn.kit_ref (by k_is) (by k_is) (by k_is) (by first | exact .inl rfl | exact .inr (by decide))); (case o_NoRow_TooMuch => exact Bn.kit_ref (by k_is) (by k_is) (by k_is) (by first | exact .inl rfl | exact .inr (by decide))); (case o_NoNumber_ValueError => exact Bn.kit_type (by decide +kernel) (by k_is)); (case o_NoRow_ValueError => exact Bn.kit_type (by decide +kernel) (by k_is))
    (case e_NoNumber => exact ⟨by k_is, by k_is, by k_is, by k_is, by k_is, by k_is, by k_is, by k_is⟩)
    (case e_NoRow => exact ⟨by k_is, by k_is, by k_is, by k_is, by k_is, by k_is, by k_is, by k_is⟩)
