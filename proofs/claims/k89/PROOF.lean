import PyProof.Rows.All
import Wide.All
import OpenK.AllK
import Wide.FinOn
import HandS.ForMost
import HandS.ForExc
import KE.DataEq
import HandS.IsInst
import HandS.Style
import HandS.TupAny
import HandS.Codes
import HandS.Text
import HandS.StrMore
import HandS.Comp
import HandS.Star
import HandS.Nested
import HandS.ExcInit
import HandS.FStr
import KE.KExcSuper
import HandS.ExcField
import HandS.ExcOwn
import KE.KExcIs
import HandS.Defaults
import HandS.ClsMeth
import HandS.TryOnly
import PySem.Challenge.RW_numbersenough_k89_windows_for_lifetimes
set_option Elab.async false
set_option linter.all false
set_option maxRecDepth 100000
set_option maxHeartbeats 4000000
set_option autoImplicit false
namespace Pm
open PySem PySem.Spec PyProof.Rows L2
abbrev Sl := List (Option V)
/-- the classes: where they stand, their fields in order -/
structure ClT where
  ad : Nat → Option Addr
  fl : Nat → List Str
/-- pure data; the o-forms are owned by one place (they may be changed), the others are shared for good -/
inductive D where
  | un | non | bl (b : Bool) | int (i : Int) | str (s : Str)
  | tup (l : List D) | lst (l : List D) | ins (c : Nat) (l : List D) | dct (ks l : List D)
  | otup (l : List D) | olst (l : List D) | oins (c : Nat) (l : List D) | odct (ks l : List D)
  | xd (c : Nat) (l : List D)
def keyD : D → Option Key
  | .int i => some (.inl i)
  | .str s => some (.inr s)
  | _ => none
mutual
def Rep (K : PySem.W.Frag) (cl : ClT) (R H : Hp) (fp : List Addr) (v : V) : D → Prop
  | .un => fp = []
  | .non => fp = [] ∧ v = .non
  | .bl b => fp = [] ∧ v = .bl b
  | .int i => fp = [] ∧ v = .int i
  | .str s => fp = [] ∧ v = .str s
  | .tup l => fp = [] ∧ ∃ a vs, v = .ref a ∧ SqT K R a vs ∧ RepL K cl R H [] vs l
  | .lst l => fp = [] ∧ ∃ a vs, v = .ref a ∧ SqL K R a vs ∧ RepL K cl R H [] vs l
  | .ins c l => fp = [] ∧ ∃ a C dx fv, v = .ref a ∧ cl.ad c = some C ∧ R a = some (.ins C dx fv) ∧ fv.map (·.1) = (cl.fl c).take l.length ∧ RepL K cl R H [] (fv.map (·.2)) l
  | .dct ks l => fp = [] ∧ ∃ a kvs, v = .ref a ∧ R a = some (.dK kvs) ∧ kvs.map (fun p => some p.1) = ks.map keyD ∧ RepL K cl R H [] (kvs.map (·.2)) l
  | .otup l => ∃ a vs, v = .ref a ∧ SqT K R a vs ∧ RepL K cl R H fp vs l
  | .olst l => ∃ a vs f, v = .ref a ∧ H a = some (.lst vs) ∧ fp = a :: f ∧ RepL K cl R H f vs l
  | .oins c l => ∃ a C dx fv f, v = .ref a ∧ cl.ad c = some C ∧ H a = some (.ins C dx fv) ∧ fv.map (·.1) = (cl.fl c).take l.length ∧ fp = a :: f ∧ RepL K cl R H f (fv.map (·.2)) l
  | .odct ks l => ∃ a kvs f, v = .ref a ∧ H a = some (.dK kvs) ∧ kvs.map (fun p => some p.1) = ks.map keyD ∧ fp = a :: f ∧ RepL K cl R H f (kvs.map (·.2)) l
  | .xd c l => fp = [] ∧ ((v = .non ∧ cl.fl c = [] ∧ l = []) ∨ ∃ a fv, v = .ref a ∧ R a = some (.xd fv) ∧ fv.map (·.1) = cl.fl c ∧ RepL K cl R H [] (fv.map (·.2)) l)
def RepL (K : PySem.W.Frag) (cl : ClT) (R H : Hp) (fp : List Addr) (vs : List V) : List D → Prop
  | [] => fp = [] ∧ vs = []
  | d :: ds => ∃ f g x xs, fp = f ++ g ∧ vs = x :: xs ∧ Rep K cl R H f x d ∧ RepL K cl R H g xs ds
end
mutual
def freeze : D → D
  | .otup l => .tup (freezeL l)
  | .olst l => .lst (freezeL l)
  | .oins c l => .ins c (freezeL l)
  | .odct ks l => .dct ks (freezeL l)
  | d => d
def freezeL : List D → List D
  | [] => []
  | d :: ds => freeze d :: freezeL ds
end
theorem freezeL_len : ∀ l : List D, (freezeL l).length = l.length
  | [] => rfl
  | d :: l => by simp only [freezeL, List.length_cons, freezeL_len l]
theorem SqT.mono {K : PySem.W.Frag} {R R' : Hp} {a : Addr} {vs : List V} (h : SqT K R a vs) (s : Same R R') : SqT K R' a vs := by
  rcases h with (h | ⟨o, h⟩) | h
  · exact .inl (.inl (s _ _ h))
  · exact .inl (.inr ⟨o, s _ _ h⟩)
  · exact .inr h
variable {K : PySem.W.Frag} {cl : ClT} {R R' H H' : Hp}
mutual
theorem Rep.mono (s : Same R R') : ∀ (d : D) {fp : List Addr} {v : V}, (∀ a ∈ fp, H' a = H a) → Rep K cl R H fp v d → Rep K cl R' H' fp v d
  | .un, _, _, _, h => by simpa only [Rep] using h
  | .non, _, _, _, h => by simpa only [Rep] using h
  | .bl _, _, _, _, h => by simpa only [Rep] using h
  | .int _, _, _, _, h => by simpa only [Rep] using h
  | .str _, _, _, _, h => by simpa only [Rep] using h
  | .tup l, _, _, k, h => by
    simp only [Rep] at h ⊢
    obtain ⟨e, a, vs, h1, h2, h3⟩ := h
    exact ⟨e, a, vs, h1, SqT.mono h2 s, RepL.mono s l (fun _ z => nomatch z) h3⟩
  | .lst l, _, _, k, h => by
    simp only [Rep] at h ⊢
    obtain ⟨e, a, vs, h1, h2, h3⟩ := h
    exact ⟨e, a, vs, h1, s.seq h2, RepL.mono s l (fun _ z => nomatch z) h3⟩
  | .ins c l, _, _, k, h => by
    simp only [Rep] at h ⊢
    obtain ⟨e, a, C, dx, fv, h1, h2, h3, h4, h5⟩ := h
    exact ⟨e, a, C, dx, fv, h1, h2, s _ _ h3, h4, RepL.mono s l (fun _ z => nomatch z) h5⟩
  | .dct ks l, _, _, k, h => by
    simp only [Rep] at h ⊢
    obtain ⟨e, a, kvs, h1, h2, h3, h4⟩ := h
    exact ⟨e, a, kvs, h1, s _ _ h2, h3, RepL.mono s l (fun _ z => nomatch z) h4⟩
  | .otup l, _, _, k, h => by
    simp only [Rep] at h ⊢
    obtain ⟨a, vs, h1, h2, h3⟩ := h
    exact ⟨a, vs, h1, SqT.mono h2 s, RepL.mono s l k h3⟩
  | .olst l, _, _, k, h => by
    simp only [Rep] at h ⊢
    obtain ⟨a, vs, f, h1, h2, rfl, h3⟩ := h
    exact ⟨a, vs, f, h1, (k a (List.mem_cons_self)).trans h2, rfl, RepL.mono s l (fun b hb => k b (List.mem_cons_of_mem _ hb)) h3⟩
  | .oins c l, _, _, k, h => by
    simp only [Rep] at h ⊢
    obtain ⟨a, C, dx, fv, f, h1, h2, h3, h4, rfl, h5⟩ := h
    exact ⟨a, C, dx, fv, f, h1, h2, (k a (List.mem_cons_self)).trans h3, h4, rfl, RepL.mono s l (fun b hb => k b (List.mem_cons_of_mem _ hb)) h5⟩
  | .odct ks l, _, _, k, h => by
    simp only [Rep] at h ⊢
    obtain ⟨a, kvs, f, h1, h2, h3, rfl, h4⟩ := h
    exact ⟨a, kvs, f, h1, (k a (List.mem_cons_self)).trans h2, h3, rfl, RepL.mono s l (fun b hb => k b (List.mem_cons_of_mem _ hb)) h4⟩
  | .xd c l, _, _, k, h => by
    simp only [Rep] at h ⊢
    obtain ⟨e, h | ⟨a, fv, h1, h2, h3, h4⟩⟩ := h
    · exact ⟨e, .inl h⟩
    · exact ⟨e, .inr ⟨a, fv, h1, s _ _ h2, h3, RepL.mono s l (fun _ z => nomatch z) h4⟩⟩
theorem RepL.mono (s : Same R R') : ∀ (ds : List D) {fp : List Addr} {vs : List V}, (∀ a ∈ fp, H' a = H a) → RepL K cl R H fp vs ds → RepL K cl R' H' fp vs ds
  | [], _, _, _, h => by simpa only [RepL] using h
  | d :: ds, _, _, k, h => by
    simp only [RepL] at h ⊢
    obtain ⟨f, g, x, xs, rfl, rfl, h1, h2⟩ := h
    exact ⟨f, g, x, xs, rfl, rfl, Rep.mono s d (fun a ha => k a (List.mem_append_left _ ha)) h1, RepL.mono s ds (fun a ha => k a (List.mem_append_right _ ha)) h2⟩
end
mutual
theorem Rep.freeze (s : Same R R') : ∀ (d : D) {fp : List Addr} {v : V}, (∀ a ∈ fp, ∀ o, H a = some o → R' a = some o) → Rep K cl R H fp v d → Rep K cl R' H' [] v (freeze d)
  | .un, _, _, _, h => by simp only [Rep, Pm.freeze]
  | .non, _, _, _, h => by simp only [Rep, Pm.freeze] at h ⊢; exact ⟨trivial, h.2⟩
  | .bl _, _, _, _, h => by simp only [Rep, Pm.freeze] at h ⊢; exact ⟨trivial, h.2⟩
  | .int _, _, _, _, h => by simp only [Rep, Pm.freeze] at h ⊢; exact ⟨trivial, h.2⟩
  | .str _, _, _, _, h => by simp only [Rep, Pm.freeze] at h ⊢; exact ⟨trivial, h.2⟩
  | .tup l, _, _, k, h => by
    simp only [Rep, Pm.freeze] at h ⊢
    obtain ⟨e, a, vs, h1, h2, h3⟩ := h
    exact ⟨trivial, a, vs, h1, SqT.mono h2 s, RepL.mono s l (fun _ z => nomatch z) h3⟩
  | .lst l, _, _, k, h => by
    simp only [Rep, Pm.freeze] at h ⊢
    obtain ⟨e, a, vs, h1, h2, h3⟩ := h
    exact ⟨trivial, a, vs, h1, s.seq h2, RepL.mono s l (fun _ z => nomatch z) h3⟩
  | .ins c l, _, _, k, h => by
    simp only [Rep, Pm.freeze] at h ⊢
    obtain ⟨e, a, C, dx, fv, h1, h2, h3, h4, h5⟩ := h
    exact ⟨trivial, a, C, dx, fv, h1, h2, s _ _ h3, h4, RepL.mono s l (fun _ z => nomatch z) h5⟩
  | .dct ks l, _, _, k, h => by
    simp only [Rep, Pm.freeze] at h ⊢
    obtain ⟨e, a, kvs, h1, h2, h3, h4⟩ := h
    exact ⟨trivial, a, kvs, h1, s _ _ h2, h3, RepL.mono s l (fun _ z => nomatch z) h4⟩
  | .otup l, _, _, k, h => by
    simp only [Rep, Pm.freeze] at h ⊢
    obtain ⟨a, vs, h1, h2, h3⟩ := h
    exact ⟨trivial, a, vs, h1, SqT.mono h2 s, RepL.freeze s l k h3⟩
  | .olst l, _, _, k, h => by
    simp only [Rep, Pm.freeze] at h ⊢
    obtain ⟨a, vs, f, h1, h2, rfl, h3⟩ := h
    exact ⟨trivial, a, vs, h1, SqL.of (k a (List.mem_cons_self) _ h2), RepL.freeze s l (fun b hb => k b (List.mem_cons_of_mem _ hb)) h3⟩
  | .oins c l, _, _, k, h => by
    simp only [Rep, Pm.freeze] at h ⊢
    obtain ⟨a, C, dx, fv, f, h1, h2, h3, h4, rfl, h5⟩ := h
    exact ⟨trivial, a, C, dx, fv, h1, h2, k a (List.mem_cons_self) _ h3, by rw [freezeL_len]; exact h4, RepL.freeze s l (fun b hb => k b (List.mem_cons_of_mem _ hb)) h5⟩
  | .odct ks l, _, _, k, h => by
    simp only [Rep, Pm.freeze] at h ⊢
    obtain ⟨a, kvs, f, h1, h2, h3, rfl, h4⟩ := h
    exact ⟨trivial, a, kvs, h1, k a (List.mem_cons_self) _ h2, h3, RepL.freeze s l (fun b hb => k b (List.mem_cons_of_mem _ hb)) h4⟩
  | .xd c l, _, _, k, h => by
    simp only [Rep, Pm.freeze] at h ⊢
    obtain ⟨e, h | ⟨a, fv, h1, h2, h3, h4⟩⟩ := h
    · exact ⟨trivial, .inl h⟩
    · exact ⟨trivial, .inr ⟨a, fv, h1, s _ _ h2, h3, RepL.mono s l (fun _ z => nomatch z) h4⟩⟩
theorem RepL.freeze (s : Same R R') : ∀ (ds : List D) {fp : List Addr} {vs : List V}, (∀ a ∈ fp, ∀ o, H a = some o → R' a = some o) → RepL K cl R H fp vs ds → RepL K cl R' H' [] vs (freezeL ds)
  | [], _, _, _, h => by simp only [RepL, freezeL] at h ⊢; exact ⟨trivial, h.2⟩
  | d :: ds, _, _, k, h => by
    simp only [RepL, freezeL] at h ⊢
    obtain ⟨f, g, x, xs, rfl, rfl, h1, h2⟩ := h
    exact ⟨[], [], x, xs, rfl, rfl, Rep.freeze s d (fun a ha => k a (List.mem_append_left _ ha)) h1, RepL.freeze s ds (fun a ha => k a (List.mem_append_right _ ha)) h2⟩
end
end Pm

namespace Pm
open PySem PySem.Spec PyProof.Rows L2
/-! ### lists of representations -/
section
variable {K : PySem.W.Frag} {cl : ClT} {R R' H H' : Hp}
def isO : D → Bool
  | .otup _ | .olst _ | .oins _ _ | .odct _ _ => true
  | _ => false
theorem Rep.fp_nil {fp : List Addr} {v : V} {d : D} (h : Rep K cl R H fp v d) (n : isO d = false) : fp = [] := by
  cases d <;> simp only [Rep, isO] at h n <;> first | exact h.1 | exact h | (cases n)
theorem RepL.nil_iff {fp : List Addr} {vs : List V} : RepL K cl R H fp vs [] ↔ fp = [] ∧ vs = [] := by simp only [RepL]
theorem RepL.cons_iff {fp : List Addr} {vs : List V} {d : D} {ds : List D} : RepL K cl R H fp vs (d :: ds) ↔ ∃ f g x xs, fp = f ++ g ∧ vs = x :: xs ∧ Rep K cl R H f x d ∧ RepL K cl R H g xs ds := by simp only [RepL]
theorem RepL.cons {f g : List Addr} {x : V} {xs : List V} {d : D} {ds : List D} (h : Rep K cl R H f x d) (t : RepL K cl R H g xs ds) : RepL K cl R H (f ++ g) (x :: xs) (d :: ds) := RepL.cons_iff.mpr ⟨f, g, x, xs, rfl, rfl, h, t⟩
theorem RepL.inv {fp : List Addr} {x : V} {xs : List V} {d : D} {ds : List D} (h : RepL K cl R H fp (x :: xs) (d :: ds)) : ∃ f g, fp = f ++ g ∧ Rep K cl R H f x d ∧ RepL K cl R H g xs ds := by
  obtain ⟨f, g, y, ys, e, e2, h1, h2⟩ := RepL.cons_iff.mp h
  injection e2 with e3 e4
  subst e3; subst e4
  exact ⟨f, g, e, h1, h2⟩
theorem RepL.length : ∀ {ds : List D} {fp : List Addr} {vs : List V}, RepL K cl R H fp vs ds → vs.length = ds.length
  | [], _, _, h => by rw [(RepL.nil_iff.mp h).2]; rfl
  | d :: ds, _, _, h => by
    obtain ⟨f, g, x, xs, rfl, rfl, h1, h2⟩ := RepL.cons_iff.mp h
    simp [h2.length]
theorem RepL.append : ∀ {ds es : List D} {f g : List Addr} {vs ws : List V}, RepL K cl R H f vs ds → RepL K cl R H g ws es → RepL K cl R H (f ++ g) (vs ++ ws) (ds ++ es)
  | [], _, _, _, _, _, h, h2 => by obtain ⟨rfl, rfl⟩ := RepL.nil_iff.mp h; exact h2
  | d :: ds, _, _, _, _, _, h, h2 => by
    obtain ⟨f, g, x, xs, rfl, rfl, h1, h3⟩ := RepL.cons_iff.mp h
    rw [List.append_assoc]
    exact RepL.cons h1 (h3.append h2)
theorem RepL.split : ∀ {ds es : List D} {fp : List Addr} {vs ws : List V}, vs.length = ds.length → RepL K cl R H fp (vs ++ ws) (ds ++ es) → ∃ f g, fp = f ++ g ∧ RepL K cl R H f vs ds ∧ RepL K cl R H g ws es
  | [], es, fp, vs, ws, hl, h => by
    have : vs = [] := List.length_eq_zero_iff.mp hl
    subst this
    exact ⟨[], fp, rfl, RepL.nil_iff.mpr ⟨rfl, rfl⟩, h⟩
  | d :: ds, es, fp, [], ws, hl, h => by simp at hl
  | d :: ds, es, fp, x :: vs, ws, hl, h => by
    obtain ⟨f, g, rfl, h1, h2⟩ := RepL.inv (xs := vs ++ ws) (ds := ds ++ es) h
    obtain ⟨f2, g2, rfl, h3, h4⟩ := RepL.split (by simpa using hl) h2
    exact ⟨f ++ f2, g2, by rw [List.append_assoc], RepL.cons h1 h3, h4⟩
/-- as many values as data in front -/
theorem RepL.split' : ∀ {ds es : List D} {fp : List Addr} {us : List V}, RepL K cl R H fp us (ds ++ es) → ∃ vs ws f g, us = vs ++ ws ∧ vs.length = ds.length ∧ fp = f ++ g ∧ RepL K cl R H f vs ds ∧ RepL K cl R H g ws es
  | [], es, fp, us, h => ⟨[], us, [], fp, rfl, rfl, rfl, RepL.nil_iff.mpr ⟨rfl, rfl⟩, h⟩
  | d :: ds, es, fp, us, h => by
    obtain ⟨f, g, x, xs, rfl, rfl, h1, h2⟩ := RepL.cons_iff.mp (show RepL K cl R H fp us (d :: (ds ++ es)) from h)
    obtain ⟨vs, ws, f2, g2, rfl, hl, rfl, h3, h4⟩ := RepL.split' h2
    exact ⟨x :: vs, ws, f ++ f2, g2, rfl, by simp [hl], by rw [List.append_assoc], RepL.cons h1 h3, h4⟩
theorem RepL.get : ∀ {ds : List D} {fp : List Addr} {vs : List V} {i : Nat} {d : D}, RepL K cl R H fp vs ds → ds[i]? = some d → ∃ f v, vs[i]? = some v ∧ Rep K cl R H f v d ∧ ∀ a ∈ f, a ∈ fp
  | [], _, _, i, d, h, e => by simp at e
  | c :: ds, _, _, 0, d, h, e => by
    obtain ⟨f, g, x, xs, rfl, rfl, h1, h2⟩ := RepL.cons_iff.mp h
    have : c = d := by simpa using e
    subst this
    exact ⟨f, x, rfl, h1, fun a ha => List.mem_append_left _ ha⟩
  | c :: ds, _, _, i + 1, d, h, e => by
    obtain ⟨f, g, x, xs, rfl, rfl, h1, h2⟩ := RepL.cons_iff.mp h
    obtain ⟨f', v, e1, h3, h4⟩ := RepL.get (i := i) h2 (by simpa using e)
    exact ⟨f', v, by simpa using e1, h3, fun a ha => List.mem_append_right _ (h4 a ha)⟩
/-- frozen data need no footprint -/
theorem RepL.fp_nil : ∀ {ds : List D} {fp : List Addr} {vs : List V}, RepL K cl R H fp vs ds → ds.all (fun d => !isO d) = true → fp = []
  | [], _, _, h, _ => (RepL.nil_iff.mp h).1
  | d :: ds, _, _, h, n => by
    obtain ⟨f, g, x, xs, rfl, rfl, h1, h2⟩ := RepL.cons_iff.mp h
    simp only [List.all_cons, Bool.and_eq_true, Bool.not_eq_true'] at n
    rw [h1.fp_nil n.1, h2.fp_nil n.2]
    rfl
/-! ### slots -/
def RepO (K : PySem.W.Frag) (cl : ClT) (R H : Hp) (f : List Addr) (x : Option V) (d : D) : Prop := match x with
  | some v => Rep K cl R H f v d
  | none => f = [] ∧ d = .un
def RepS (K : PySem.W.Frag) (cl : ClT) (R H : Hp) (fp : List Addr) (σ : Sl) : List D → Prop
  | [] => fp = [] ∧ σ = []
  | d :: ds => ∃ f g x xs, fp = f ++ g ∧ σ = x :: xs ∧ RepO K cl R H f x d ∧ RepS K cl R H g xs ds
theorem RepO.mono {f : List Addr} {x : Option V} {d : D} (s : Same R R') (k : ∀ a ∈ f, H' a = H a) (h : RepO K cl R H f x d) : RepO K cl R' H' f x d := by
  cases x with
  | some v => exact Rep.mono s d k h
  | none => exact h
theorem RepS.mono (s : Same R R') : ∀ (ds : List D) {fp : List Addr} {σ : Sl}, (∀ a ∈ fp, H' a = H a) → RepS K cl R H fp σ ds → RepS K cl R' H' fp σ ds
  | [], _, _, _, h => h
  | d :: ds, _, _, k, h => by
    obtain ⟨f, g, x, xs, rfl, rfl, h1, h2⟩ := h
    exact ⟨f, g, x, xs, rfl, rfl, h1.mono s fun a ha => k a (List.mem_append_left _ ha), RepS.mono s ds (fun a ha => k a (List.mem_append_right _ ha)) h2⟩
theorem RepS.length : ∀ {ds : List D} {fp : List Addr} {σ : Sl}, RepS K cl R H fp σ ds → σ.length = ds.length
  | [], _, _, h => by rw [h.2]; rfl
  | d :: ds, _, _, h => by
    obtain ⟨f, g, x, xs, rfl, rfl, h1, h2⟩ := h
    simp [h2.length]
/-- the slot i taken out: its footprint apart -/
theorem RepS.take : ∀ {ds : List D} {fp : List Addr} {σ : Sl} {i : Nat} {d : D}, RepS K cl R H fp σ ds → ds[i]? = some d → ∃ f g x, σ[i]? = some x ∧ fp.Perm (f ++ g) ∧ RepO K cl R H f x d ∧
    ∀ (R' H' : Hp), Same R R' → (∀ a ∈ g, H' a = H a) → ∀ f' x' d', RepO K cl R' H' f' x' d' → ∃ fp', fp'.Perm (f' ++ g) ∧ RepS K cl R' H' fp' (σ.set i x') (ds.set i d')
  | [], _, _, i, d, h, e => by simp at e
  | c :: ds, _, _, 0, d, h, e => by
    obtain ⟨f, g, x, xs, rfl, rfl, h1, h2⟩ := h
    have : c = d := by simpa using e
    subst this
    exact ⟨f, g, x, rfl, .refl _, h1, fun R' H' s k f' x' d' h' => ⟨f' ++ g, .refl _, f', g, x', xs, rfl, rfl, h', RepS.mono s _ k h2⟩⟩
  | c :: ds, _, _, i + 1, d, h, e => by
    obtain ⟨f, g, x, xs, rfl, rfl, h1, h2⟩ := h
    obtain ⟨f2, g2, y, e1, p, h3, k⟩ := RepS.take (i := i) (d := d) h2 (by simpa using e)
    refine ⟨f2, f ++ g2, y, by simpa using e1, ?_, h3, fun R' H' s kg f' x' d' h' => ?_⟩
    · exact (List.Perm.append_left f p).trans (by rw [← List.append_assoc, ← List.append_assoc]; exact List.Perm.append_right _ List.perm_append_comm)
    · obtain ⟨fp', p', h4⟩ := k R' H' s (fun a ha => kg a (List.mem_append_right _ ha)) f' x' d' h'
      refine ⟨f ++ fp', ?_, f, fp', x, xs.set i x', rfl, by simp, h1.mono s fun a ha => kg a (List.mem_append_left _ ha), by simpa using h4⟩
      exact (List.Perm.append_left f p').trans (by rw [← List.append_assoc, ← List.append_assoc]; exact List.Perm.append_right _ List.perm_append_comm)
/-- the chosen slots as values -/
def pick {α : Type} : List Bool → List α → List α
  | true :: m, x :: xs => x :: pick m xs
  | false :: m, _ :: xs => pick m xs
  | _, _ => []
theorem RepS.pick : ∀ {m : List Bool} {ds : List D} {fp : List Addr} {σ : Sl} {vs : List V}, RepS K cl R H fp σ ds → (∀ i, m.getD i false = true → σ[i]? = vs[i]?.map some) → m.length ≤ vs.length → m.length ≤ ds.length →
    ∃ f, (∀ a ∈ f, a ∈ fp) ∧ (fp.Nodup → f.Nodup) ∧ RepL K cl R H f (Pm.pick m vs) (Pm.pick m ds)
  | [], _, _, _, _, _, _, _, _ => ⟨[], (fun _ z => nomatch z), (fun _ => List.nodup_nil), by simp only [Pm.pick, RepL]; exact ⟨trivial, trivial⟩⟩
  | b :: m, [], _, _, _, _, _, _, hl => by simp at hl
  | b :: m, d :: ds, _, _, [], _, _, hl, _ => by simp at hl
  | b :: m, d :: ds, _, _, v :: vs, h, k, hl, hl2 => by
    obtain ⟨f, g, x, xs, rfl, rfl, h1, h2⟩ := h
    obtain ⟨f2, m1, nd, h3⟩ := RepS.pick (m := m) (vs := vs) h2 (fun i hi => by have := k (i + 1) (by simpa using hi); simpa using this) (by simpa using hl) (by simpa using hl2)
    cases b with
    | false => exact ⟨f2, fun a ha => List.mem_append_right _ (m1 a ha), fun n => nd (List.nodup_append.mp n).2.1, h3⟩
    | true =>
      have e : x = some v := by have := k 0 rfl; simpa using this
      subst e
      refine ⟨f ++ f2, fun a ha => ?_, fun n => ?_, RepL.cons h1 h3⟩
      · rcases List.mem_append.mp ha with z | z
        · exact List.mem_append_left _ z
        · exact List.mem_append_right _ (m1 a z)
      · obtain ⟨n1, n2, n3⟩ := List.nodup_append.mp n
        exact List.nodup_append.mpr ⟨n1, nd n2, fun a ha b hb => n3 a ha b (m1 b hb)⟩
end
/-! ### how the heap evolves -/
/-- from (R, H) to (R1, H1) where only what stands at F may be changed or shared -/
structure Ev (R H : Hp) (F : List Addr) (R1 H1 : Hp) : Prop where
  s1 : Same R R1
  s2 : Same R1 H1
  k : ∀ a o, a ∉ F → H a = some o → H1 a = some o
  n : ∀ a o, R1 a = some o → R a = some o ∨ H a = none ∨ a ∈ F
  l : ∀ a o, H a = some o → ∃ o', H1 a = some o'
theorem Ev.refl {R H : Hp} {F : List Addr} (s : Same R H) : Ev R H F R H := ⟨Same.refl R, s, fun _ _ _ h => h, fun _ _ h => .inl h, fun _ o h => ⟨o, h⟩⟩
theorem Ev.trans {R H R1 H1 R2 H2 : Hp} {F F1 : List Addr} (a : Ev R H F R1 H1) (b : Ev R1 H1 F1 R2 H2) (h : ∀ x ∈ F1, x ∈ F ∨ H x = none) : Ev R H F R2 H2 where
  s1 := a.s1.trans b.s1
  s2 := b.s2
  k := fun x o nx e => b.k x o (fun z => (h x z).elim nx fun q => by rw [q] at e; cases e) (a.k x o nx e)
  n := fun x o e => by
    rcases b.n x o e with q | q | q
    · exact a.n x o q
    · cases r : H x with
      | none => exact .inr (.inl rfl)
      | some o' =>
        obtain ⟨o'', z⟩ := a.l x o' r
        rw [q] at z; cases z
    · exact (h x q).elim (fun z => .inr (.inr z)) fun z => .inr (.inl z)
  l := fun x o e => by
    obtain ⟨o', q⟩ := a.l x o e
    exact b.l x o' q
theorem Ev.allocT {R H : Hp} {F : List Addr} {p : Addr} {o : HO} (s : Same R H) (hp : H p = none) : Ev R H F (upd R p o) (upd H p o) where
  s1 := fun a x e => by rw [upd_ne (ne_of_none (s a x e) hp)]; exact e
  s2 := fun a x e => by
    by_cases h : a = p
    · rw [h, upd_same] at e ⊢; exact e
    · rw [upd_ne h] at e ⊢; exact s a x e
  k := fun a x _ e => by rw [upd_ne (ne_of_none e hp)]; exact e
  n := fun a x e => by
    by_cases h : a = p
    · rw [h]; exact .inr (.inl hp)
    · rw [upd_ne h] at e; exact .inl e
  l := fun a x e => ⟨x, by rw [upd_ne (ne_of_none e hp)]; exact e⟩
theorem Ev.alloc {R H : Hp} {F : List Addr} {p : Addr} {o : HO} (s : Same R H) (hp : H p = none) : Ev R H F R (upd H p o) where
  s1 := Same.refl R
  s2 := fun a x e => by rw [upd_ne (ne_of_none (s a x e) hp)]; exact s a x e
  k := fun a x _ e => by rw [upd_ne (ne_of_none e hp)]; exact e
  n := fun a x e => .inl e
  l := fun a x e => ⟨x, by rw [upd_ne (ne_of_none e hp)]; exact e⟩
theorem Ev.write {R H : Hp} {F : List Addr} {p : Addr} {o : HO} (s : Same R H) (hp : p ∈ F) (hr : R p = none) : Ev R H F R (upd H p o) where
  s1 := Same.refl R
  s2 := fun a x e => by rw [upd_ne (ne_of_none e hr)]; exact s a x e
  k := fun a x h e => by rw [upd_ne (fun z => h (by rw [z]; exact hp))]; exact e
  n := fun a x e => .inl e
  l := fun a x e => by
    by_cases h : a = p
    · exact ⟨o, by rw [h, upd_same]⟩
    · exact ⟨x, by rw [upd_ne h]; exact e⟩
/-- what stands at f is shared from now on -/
def fz (R H : Hp) (f : List Addr) : Hp := fun a => if a ∈ f then H a else R a
theorem Ev.freeze {R H : Hp} {F f : List Addr} (s : Same R H) (hf : ∀ a ∈ f, a ∈ F) (hr : ∀ a ∈ f, R a = none) : Ev R H F (fz R H f) H where
  s1 := fun a x e => by
    unfold fz
    rw [if_neg (fun z => by rw [hr a z] at e; cases e)]
    exact e
  s2 := fun a x e => by
    unfold fz at e
    by_cases h : a ∈ f
    · rw [if_pos h] at e; exact e
    · rw [if_neg h] at e; exact s a x e
  k := fun _ _ _ e => e
  n := fun a x e => by
    unfold fz at e
    by_cases h : a ∈ f
    · exact .inr (.inr (hf a h))
    · rw [if_neg h] at e; exact .inl e
  l := fun a x e => ⟨x, e⟩
/-! ### the state of a def's body -/
/-- the entry: what was shared, the heap, what it owns, its slots -/
structure Ent where
  R : Hp
  H : Hp
  F : List Addr
  σ : Sl
structure SI (K : PySem.W.Frag) (cl : ClT) (mk : List Bool) (E : Ent) (R H : Hp) (fs ft : List Addr) (σ : Sl) (env : List D) (tv : List V) (td : List D) : Prop where
  ev : Ev E.R E.H E.F R H
  slots : RepS K cl R H fs σ env
  temps : RepL K cl R H ft tv td
  nd : (fs ++ ft).Nodup
  own : ∀ a ∈ fs ++ ft, R a = none ∧ (∃ o, H a = some o) ∧ (a ∈ E.F ∨ E.H a = none)
  fix : ∀ i, mk.getD i false = true → σ[i]? = E.σ[i]?
section
variable {K : PySem.W.Frag} {cl : ClT} {mk : List Bool} {E : Ent} {R H R1 H1 : Hp} {fs ft fs1 ft1 : List Addr} {σ σ1 : Sl} {env env1 : List D} {tv tv1 : List V} {td td1 : List D}
theorem SI.same (S : SI K cl mk E R H fs ft σ env tv td) : Same R H := S.ev.s2
/-- THE STEP -/
theorem SI.go (S : SI K cl mk E R H fs ft σ env tv td) (e : Ev R H (fs ++ ft) R1 H1) (hs : RepS K cl R1 H1 fs1 σ1 env1) (ht : RepL K cl R1 H1 ft1 tv1 td1) (nd : (fs1 ++ ft1).Nodup)
    (own : ∀ a ∈ fs1 ++ ft1, R1 a = none ∧ (∃ o, H1 a = some o) ∧ (a ∈ fs ++ ft ∨ H a = none)) (fix : ∀ i, mk.getD i false = true → σ1[i]? = σ[i]?) : SI K cl mk E R1 H1 fs1 ft1 σ1 env1 tv1 td1 where
  ev := S.ev.trans e fun a ha => (S.own a ha).2.2
  slots := hs
  temps := ht
  nd := nd
  own := fun a ha => by
    obtain ⟨h1, h2, h3⟩ := own a ha
    refine ⟨h1, h2, ?_⟩
    rcases h3 with h3 | h3
    · exact (S.own a h3).2.2
    · cases q : E.H a with
      | none => exact .inr rfl
      | some o =>
        obtain ⟨o', z⟩ := S.ev.l a o q
        rw [h3] at z; cases z
  fix := fun i hi => (fix i hi).trans (S.fix i hi)
/-- only the footprints' order changes -/
theorem SI.perm (S : SI K cl mk E R H fs ft σ env tv td) (hs : RepS K cl R H fs1 σ1 env1) (ht : RepL K cl R H ft1 tv1 td1) (p : (fs1 ++ ft1).Perm (fs ++ ft)) (fix : ∀ i, mk.getD i false = true → σ1[i]? = σ[i]?) : SI K cl mk E R H fs1 ft1 σ1 env1 tv1 td1 :=
  ⟨S.ev, hs, ht, p.nodup_iff.mpr S.nd, fun a ha => S.own a (p.mem_iff.mp ha), fun i hi => (fix i hi).trans (S.fix i hi)⟩
/-- a part of the footprints is let go -/
theorem SI.sub (S : SI K cl mk E R H fs ft σ env tv td) (hs : RepS K cl R H fs1 σ1 env1) (ht : RepL K cl R H ft1 tv1 td1) (hsub : ∃ g, (fs1 ++ ft1 ++ g).Perm (fs ++ ft)) (fix : ∀ i, mk.getD i false = true → σ1[i]? = σ[i]?) : SI K cl mk E R H fs1 ft1 σ1 env1 tv1 td1 := by
  obtain ⟨g, p⟩ := hsub
  exact ⟨S.ev, hs, ht, (List.nodup_append.mp (p.nodup_iff.mpr S.nd)).1, fun a ha => S.own a (p.mem_iff.mp (List.mem_append_left _ ha)), fun i hi => (fix i hi).trans (S.fix i hi)⟩
/-- a step where slots and base temps stay as they are: the owned part f of the temps may change -/
theorem SI.goT {f g : List Addr} {vs : List V} {ds : List D} {f1 : List Addr} {vs1 : List V} {ds1 : List D} (S : SI K cl mk E R H fs (f ++ g) σ env (vs ++ tv) (ds ++ td)) (hg : RepL K cl R H g tv td) (e : Ev R H f R1 H1)
    (hr : ∀ a ∈ fs ++ g, R1 a = none) (h1 : RepL K cl R1 H1 f1 vs1 ds1) (nd1 : f1.Nodup) (own1 : ∀ a ∈ f1, R1 a = none ∧ (∃ o, H1 a = some o) ∧ (a ∈ f ∨ H a = none)) : SI K cl mk E R1 H1 fs (f1 ++ g) σ env (vs1 ++ tv) (ds1 ++ td) := by
  have nd := S.nd
  obtain ⟨n1, n2, n3⟩ := List.nodup_append.mp nd
  obtain ⟨n4, n5, n6⟩ := List.nodup_append.mp n2
  have kp : ∀ a ∈ fs ++ g, H1 a = H a := fun a ha => by
    have hm : a ∈ fs ++ (f ++ g) := by
      rcases List.mem_append.mp ha with z | z
      · exact List.mem_append_left _ z
      · exact List.mem_append_right _ (List.mem_append_right _ z)
    obtain ⟨o, q⟩ := (S.own a hm).2.1
    rw [q]
    refine e.k a o (fun z => ?_) q
    rcases List.mem_append.mp ha with y | y
    · exact n3 a y a (List.mem_append_left _ z) rfl
    · exact n6 a z a y rfl
  refine S.go (e := ⟨e.s1, e.s2, fun a o h q => e.k a o (fun z => h (List.mem_append_right _ (List.mem_append_left _ z))) q, fun a o q => (e.n a o q).imp id (Or.imp id fun z => List.mem_append_right _ (List.mem_append_left _ z)), e.l⟩)
    (RepS.mono e.s1 _ (fun a ha => kp a (List.mem_append_left _ ha)) S.slots) (h1.append (RepL.mono e.s1 _ (fun a ha => kp a (List.mem_append_right _ ha)) hg)) ?_ (fun a ha => ?_) (fun _ _ => rfl)
  · have old : ∀ a ∈ fs ++ g, ∀ b ∈ f1, a ≠ b := fun a ha b hb q => by
      subst q
      obtain ⟨_, _, z | z⟩ := own1 a hb
      · rcases List.mem_append.mp ha with y | y
        · exact n3 a y a (List.mem_append_left _ z) rfl
        · exact n6 a z a y rfl
      · have hm : a ∈ fs ++ (f ++ g) := by
          rcases List.mem_append.mp ha with z | z
          · exact List.mem_append_left _ z
          · exact List.mem_append_right _ (List.mem_append_right _ z)
        obtain ⟨o, q⟩ := (S.own a hm).2.1
        rw [z] at q; cases q
    refine List.nodup_append.mpr ⟨n1, List.nodup_append.mpr ⟨nd1, n5, fun a ha b hb q => old b (List.mem_append_right _ hb) a ha q.symm⟩, fun a ha b hb => ?_⟩
    rcases List.mem_append.mp hb with z | z
    · exact old a (List.mem_append_left _ ha) b z
    · exact n3 a ha b (List.mem_append_right _ z)
  · have : a ∈ f1 ∨ a ∈ fs ++ g := by
      rcases List.mem_append.mp ha with z | z
      · exact .inr (List.mem_append_left _ z)
      · rcases List.mem_append.mp z with y | y
        · exact .inl y
        · exact .inr (List.mem_append_right _ y)
    rcases this with z | z
    · obtain ⟨q1, q2, q3⟩ := own1 a z
      exact ⟨q1, q2, q3.imp (fun y => List.mem_append_right _ (List.mem_append_left _ y)) id⟩
    · have hm : a ∈ fs ++ (f ++ g) := by
        rcases List.mem_append.mp z with z | z
        · exact List.mem_append_left _ z
        · exact List.mem_append_right _ (List.mem_append_right _ z)
      exact ⟨hr a z, by obtain ⟨o, q⟩ := (S.own a hm).2.1; exact e.l a o q, .inl hm⟩
end
end Pm

namespace Pm
open PySem PySem.Spec PyProof.Rows L2
/-- the outcome: a value and the slots; an exception (its class, its fields, the slots); nothing known -/
inductive Out (α : Type) where
  | ok (a : α) (env : List D)
  | ex (c : Nat) (fs : List D) (env : List D)
  | bad
abbrev M (α : Type) := List D → Out α
def ret {α : Type} (a : α) : M α := fun env => .ok a env
def bnd {α β : Type} (m : M α) (k : α → M β) : M β := fun env => match m env with
  | .ok a e => k a e
  | .ex c fs e => .ex c fs e
  | .bad => .bad
def lft {α : Type} (o : Option α) : M α := fun env => match o with
  | some a => .ok a env
  | none => .bad
/-- what a def's body is in: classes, slots that stay, the entry, the wish about exceptions -/
structure Cn where
  cl : ClT
  msk : List Bool
  E : Ent
  W : WX
/-- THE STATE: slots, heap, values under way -/
def A (K : PySem.W.Frag) (c : Cn) (σ : Sl) (H : Hp) (tv : List V) (env : List D) (td : List D) : Prop := ∃ R fs ft, SI K c.cl c.msk c.E R H fs ft σ env tv td
def EXc (K : PySem.W.Frag) (c : Cn) (σ : Sl) (H : Hp) (tv : List V) (env : List D) (td : List D) (x : Nat) (fs : List D) (cls : Value) (dd : Option Addr) : Prop :=
  ∃ C v, c.cl.ad x = some C ∧ cls = .ref C ∧ (v = V.non ∧ dd = none ∨ ∃ a, v = V.ref a ∧ dd = some a) ∧ A K c σ H (v :: tv) env (.xd x fs :: td)
def Ok (K : PySem.W.Frag) (c : Cn) (σ : Sl) (tv : List V) (td : List D) {α : Type} (o : Out α) (P : α → List D → Prop) : Prop := match o with
  | .ok a env => P a env
  | .ex x fs env => ∀ H cls dd, EXc K c σ H tv env td x fs cls dd → c.W cls dd σ H
  | .bad => False
section
variable {K : PySem.W.Frag} {c : Cn} {σ : Sl} {H : Hp} {tv vs : List V} {env td ds : List D} {v : V} {d : D} {α β : Type}
theorem Ok.mono {o : Out α} {P P' : α → List D → Prop} (h : Ok K c σ tv td o P) (k : ∀ a e, P a e → P' a e) : Ok K c σ tv td o P' := by
  cases o with
  | ok a e => exact k a e h
  | ex x fs e => exact h
  | bad => exact h
theorem Ok.bnd {m : M α} {k : α → M β} {P : β → List D → Prop} (h : Ok K c σ tv td (bnd m k env) P) : Ok K c σ tv td (m env) fun a e => Ok K c σ tv td (k a e) P := by
  unfold Pm.bnd at h
  cases q : m env with
  | ok a e => rw [q] at h; exact h
  | ex x fs e => rw [q] at h; exact h
  | bad => rw [q] at h; exact h
theorem Ok.lft {o : Option α} {P : α → List D → Prop} (h : Ok K c σ tv td (lft o env) P) : ∃ a, o = some a ∧ P a env := by
  cases o with
  | some a => exact ⟨a, rfl, h⟩
  | none => exact h.elim
/-- values under way are let go -/
theorem A.drop (a : A K c σ H (vs ++ tv) env (ds ++ td)) (hl : vs.length = ds.length) : A K c σ H tv env td := by
  obtain ⟨R, fs, ft, S⟩ := a
  obtain ⟨f, g, rfl, h1, h2⟩ := S.temps.split hl
  exact ⟨R, fs, g, S.sub S.slots h2 ⟨f, by rw [List.append_assoc]; exact List.Perm.append_left _ List.perm_append_comm⟩ fun _ _ => rfl⟩
theorem A.pop (a : A K c σ H (v :: tv) env (d :: td)) : A K c σ H tv env td := A.drop (vs := [v]) (ds := [d]) a rfl
theorem A.dropMid (a : A K c σ H (v :: (vs ++ tv)) env (d :: (ds ++ td))) (hl : vs.length = ds.length) : A K c σ H (v :: tv) env (d :: td) := by
  obtain ⟨R, fs, ft, S⟩ := a
  obtain ⟨f, g, rfl, h1, h2⟩ := S.temps.inv
  obtain ⟨f2, g2, rfl, h3, h4⟩ := h2.split hl
  refine ⟨R, fs, f ++ g2, S.sub S.slots (RepL.cons h1 h4) ⟨f2, ?_⟩ fun _ _ => rfl⟩
  simp only [List.append_assoc]
  exact List.Perm.append_left _ (List.Perm.append_left _ List.perm_append_comm)
theorem EXc.drop {x : Nat} {fs : List D} {cls : Value} {dd : Option Addr} (h : EXc K c σ H (vs ++ tv) env (ds ++ td) x fs cls dd) (hl : vs.length = ds.length) : EXc K c σ H tv env td x fs cls dd := by
  obtain ⟨C, v, h1, h2, h3, a⟩ := h
  exact ⟨C, v, h1, h2, h3, a.dropMid hl⟩
/-- under more values under way -/
theorem Ok.over {o : Out α} {P : α → List D → Prop} (h : Ok K c σ tv td o P) (hl : vs.length = ds.length) : Ok K c σ (vs ++ tv) (ds ++ td) o P := by
  cases o with
  | ok a e => exact h
  | ex x fs e => exact fun H cls dd z => h H cls dd (z.drop hl)
  | bad => exact h
theorem Ok.over1 {o : Out α} {P : α → List D → Prop} (h : Ok K c σ tv td o P) : Ok K c σ (v :: tv) (d :: td) o P := Ok.over (vs := [v]) (ds := [d]) h rfl
/-- scalars -/
def sv : D → Option V
  | .non => some .non
  | .bl b => some (.bl b)
  | .int i => some (.int i)
  | .str s => some (.str s)
  | _ => none
theorem Rep.sv {cl : ClT} {R : Hp} {f : List Addr} {x : V} (h : Rep K cl R H f x d) {v : V} (e : sv d = some v) : x = v ∧ f = [] := by
  cases d <;> simp only [Pm.sv] at e <;> first | (cases e; simp only [Rep] at h; exact ⟨h.2, h.1⟩) | cases e
theorem rep_sv {cl : ClT} {R : Hp} {v : V} (e : sv d = some v) : Rep K cl R H [] v d := by
  cases d <;> simp only [Pm.sv] at e <;> first | (cases e; simp only [Rep]; exact ⟨trivial, trivial⟩) | cases e
theorem A.sv (a : A K c σ H (v :: tv) env (d :: td)) {x : V} (e : Pm.sv d = some x) : v = x := by
  obtain ⟨R, fs, ft, S⟩ := a
  obtain ⟨f, g, rfl, h1, h2⟩ := S.temps.inv
  exact (h1.sv e).1
theorem A.sv2 {w : V} {e : D} (a : A K c σ H (w :: v :: tv) env (e :: d :: td)) {x : V} (h : Pm.sv d = some x) : v = x := A.sv a.pop h
theorem A.push (a : A K c σ H tv env td) {x : V} (e : Pm.sv d = some x) : A K c σ H (x :: tv) env (d :: td) := by
  obtain ⟨R, fs, ft, S⟩ := a
  exact ⟨R, fs, ft, S.perm S.slots (RepL.cons (f := []) (rep_sv e) S.temps) (.refl _) fun _ _ => rfl⟩
theorem A.len (a : A K c σ H tv env td) : σ.length = env.length ∧ tv.length = td.length := by
  obtain ⟨R, fs, ft, S⟩ := a
  exact ⟨S.slots.length, S.temps.length⟩
end
/-! ### the readings -/
def tM (K : PySem.W.Frag) (c : Cn) (m : M D) : TE := fun σ H Q => ∃ tv env td, A K c σ H tv env td ∧ Ok K c σ tv td (m env) fun d e => ∀ H' v, A K c σ H' (v :: tv) e (d :: td) → Q v H'
def tT (K : PySem.W.Frag) (c : Cn) (m : M Bool) : TT := fun σ H Q => ∃ tv env td, A K c σ H tv env td ∧ Ok K c σ tv td (m env) fun b e => ∀ H', A K c σ H' tv e td → Q b H'
/-- arguments; tk: which of them are taken out of a slot (they are put back behind the call) -/
def TK (σ : Sl) (tk : List (Option Nat)) (vs : List V) : Prop := tk.length = vs.length ∧ ∀ (k i : Nat), tk[k]? = some (some i) → ∃ v, vs[k]? = some v ∧ σ[i]? = some (some v)
def tA (K : PySem.W.Frag) (c : Cn) (tk : List (Option Nat)) (m : M (List D)) : TA := fun σ H Q => ∃ tv env td, A K c σ H tv env td ∧ Ok K c σ tv td (m env) fun ds e => ∀ H' vs, vs.length = ds.length → TK σ tk vs → A K c σ H' (vs ++ tv) e (ds ++ td) → Q vs H'
inductive Fl where
  | nx | bk | ct | rt (d : D)
def OkS (K : PySem.W.Frag) (c : Cn) (tv : List V) (td : List D) (D : Ends) (o : Out Fl) : Prop := match o with
  | .ok .nx env => ∀ σ H, A K c σ H tv env td → D.nx σ H
  | .ok .bk env => ∀ σ H, A K c σ H tv env td → D.bk σ H
  | .ok .ct env => ∀ σ H, A K c σ H tv env td → D.ct σ H
  | .ok (.rt d) env => ∀ σ H v, A K c σ H (v :: tv) env (d :: td) → D.rt v H
  | .ex x fs env => ∀ σ H cls dd, EXc K c σ H tv env td x fs cls dd → c.W cls dd σ H
  | .bad => False
def tS (K : PySem.W.Frag) (c : Cn) (m : M Fl) : TS := fun D σ H => ∃ tv env td, A K c σ H tv env td ∧ OkS K c tv td D (m env)
theorem _root_.L2.PE.imp {X : Cx} {e : Expr} {t t' : TE} (h : PE X e t) (k : ∀ σ H Q, t' σ H Q → t σ H Q) : PE X e t' := ⟨fun pins s σ H Q I q => h.run pins s σ H Q I (k σ H Q q)⟩
theorem _root_.L2.PT.imp {X : Cx} {e : Expr} {t t' : TT} (h : PT X e t) (k : ∀ σ H Q, t' σ H Q → t σ H Q) : PT X e t' := ⟨fun pins s σ H Q I q => h.run pins s σ H Q I (k σ H Q q)⟩
theorem _root_.L2.PW.imp {X : Cx} {e : Expr} {t t' : TT} (h : PW X e t) (k : ∀ σ H Q, t' σ H Q → t σ H Q) : PW X e t' := ⟨fun w pins s σ H Q I q => h.run w pins s σ H Q I (k σ H Q q)⟩
theorem _root_.L2.PA.imp {X : Cx} {e : List Expr} {t t' : TA} (h : PA X e t) (k : ∀ σ H Q, t' σ H Q → t σ H Q) : PA X e t' := ⟨fun p pins s σ H Q I q => h.run p pins s σ H Q I (k σ H Q q)⟩
theorem _root_.L2.PS.imp {X : Cx} {st : Stmt} {t t' : TS} (h : PS X st t) (k : ∀ D σ H, t' D σ H → t D σ H) : PS X st t' := ⟨fun pins s σ H D I q => h.run pins s σ H D I (k D σ H q)⟩
theorem _root_.L2.PSs.imp {X : Cx} {st : List Stmt} {t t' : TS} (h : PSs X st t) (k : ∀ D σ H, t' D σ H → t D σ H) : PSs X st t' := ⟨fun pins s σ H D I q => h.run pins s σ H D I (k D σ H q)⟩
/-! ### expressions -/
section
variable {X : Cx} {c : Cn} {a b e : Expr} {es : List Expr} {f g : M D} {pos : Pos}
/-! constants -/
def eC (d : D) : M D := ret d
theorem m_int {i j pos} : PE X (.Constant (.int i) j pos) (tM X.K c (eC (.int i))) := pe_int.imp fun σ H Q ⟨tv, env, td, a, ok⟩ => ok H _ (a.push rfl)
theorem m_bl {i j pos} : PE X (.Constant (.bool i) j pos) (tM X.K c (eC (.bl i))) := pe_bl.imp fun σ H Q ⟨tv, env, td, a, ok⟩ => ok H _ (a.push rfl)
theorem m_non {j pos} : PE X (.Constant .none j pos) (tM X.K c (eC .non)) := pe_non.imp fun σ H Q ⟨tv, env, td, a, ok⟩ => ok H _ (a.push rfl)
theorem m_str {i j pos} : PE X (.Constant (.str i) j pos) (tM X.K c (eC (.str i))) := pe_str.imp fun σ H Q ⟨tv, env, td, a, ok⟩ => ok H _ (a.push rfl)
/-! a name: what it holds is shared from then on -/
def isU : D → Bool
  | .un => true
  | _ => false
def getV (i : Nat) (env : List D) : Option D := match env[i]? with
  | some d => if isU d then none else some d
  | none => none
def eV (i : Nat) : M D := fun env => match getV i env with
  | some d => .ok (freeze d) (env.set i (freeze d))
  | none => .bad
theorem getV_some {i : Nat} {env : List D} {d : D} (h : getV i env = some d) : env[i]? = some d ∧ isU d = false := by
  unfold getV at h
  cases q : env[i]? with
  | none => rw [q] at h; cases h
  | some x =>
    rw [q] at h
    cases u : isU x with
    | true => simp [u] at h
    | false =>
      simp [u] at h
      subst h
      exact ⟨rfl, u⟩
theorem RepO.some_of {K : PySem.W.Frag} {cl : ClT} {R H : Hp} {f : List Addr} {x : Option V} {d : D} (h : RepO K cl R H f x d) (n : isU d = false) : ∃ v, x = some v ∧ Rep K cl R H f v d := by
  cases x with
  | some v => exact ⟨v, rfl, h⟩
  | none =>
    obtain ⟨_, rfl⟩ := h
    cases n
theorem set_self {α : Type} : ∀ {l : List α} {i : Nat} {x : α}, l[i]? = some x → l.set i x = l
  | [], _, _, h => by simp at h
  | a :: l, 0, x, h => by
    have : a = x := by simpa using h
    rw [this]; rfl
  | a :: l, i + 1, x, h => by
    show a :: l.set i x = a :: l
    rw [set_self (by simpa using h)]
theorem nd_perm {fs ft a b : List Addr} (p : fs.Perm a) (q : ft.Perm b) : (fs ++ ft).Perm (a ++ b) := p.append q
/-- a slot's thing is shared; its value goes under way -/
theorem A.share {K : PySem.W.Frag} {c : Cn} {σ : Sl} {H : Hp} {tv : List V} {env td : List D} {i : Nat} {d : D} (a : A K c σ H tv env td) (e : env[i]? = some d) (n : isU d = false) :
    ∃ v, σ[i]? = some (some v) ∧ A K c σ H (v :: tv) (env.set i (freeze d)) (freeze d :: td) := by
  obtain ⟨R, fs, ft, S⟩ := a
  obtain ⟨f, g, x, e1, p, h1, k⟩ := RepS.take S.slots e
  obtain ⟨v, rfl, h2⟩ := h1.some_of n
  have hn := S.nd
  have sub : ∀ b ∈ f, b ∈ fs ++ ft := fun b hb => List.mem_append_left _ (p.mem_iff.mpr (List.mem_append_left _ hb))
  have gsub : ∀ b ∈ g, b ∈ fs := fun b hb => p.mem_iff.mpr (List.mem_append_right _ hb)
  have nfg : (f ++ g ++ ft).Nodup := (nd_perm p (.refl ft)).nodup_iff.mp hn
  obtain ⟨n1, n2, n3⟩ := List.nodup_append.mp nfg
  obtain ⟨n4, n5, n6⟩ := List.nodup_append.mp n1
  have ev : Ev R H (fs ++ ft) (fz R H f) H := Ev.freeze S.same sub fun b hb => (S.own b (sub b hb)).1
  have hr : Rep K c.cl (fz R H f) H [] v (freeze d) := Rep.freeze ev.s1 d (fun b hb o q => by unfold fz; rw [if_pos hb]; exact q) h2
  obtain ⟨fp', p', hs⟩ := k (fz R H f) H ev.s1 (fun _ _ => rfl) [] (some v) (freeze d) hr
  rw [set_self e1] at hs
  have p2 : fp'.Perm g := p'
  refine ⟨v, e1, fz R H f, fp', ft, S.go ev hs (RepL.cons (f := []) hr (RepL.mono ev.s1 _ (fun _ _ => rfl) S.temps)) ?_ (fun b hb => ?_) fun _ _ => rfl⟩
  · show (fp' ++ ft).Nodup
    refine (nd_perm p2 (.refl ft)).nodup_iff.mpr (List.nodup_append.mpr ⟨n5, n2, fun x hx y hy => n3 x (List.mem_append_right _ hx) y hy⟩)
  · have hb' : b ∈ g ∨ b ∈ ft := by
      rcases List.mem_append.mp hb with z | z
      · exact .inl (p2.mem_iff.mp z)
      · exact .inr z
    have hm : b ∈ fs ++ ft := hb'.elim (fun z => List.mem_append_left _ (gsub b z)) fun z => List.mem_append_right _ z
    have nf : b ∉ f := fun z => hb'.elim (fun y => n6 b z b y rfl) fun y => n3 b (List.mem_append_left _ z) b y rfl
    exact ⟨by unfold fz; rw [if_neg nf]; exact (S.own b hm).1, (S.own b hm).2.1, .inl hm⟩
theorem m_var (i : Nat) {x : Str} (hN : X.N[i]? = some x := by rfl) (hv : Vis X.env.scope x := by first | exact Or.inl rfl | exact Or.inr (Or.inl rfl) | exact Or.inr (Or.inr rfl)) (hd : (x == ("__debug__" : Str)) = false := by decide)
    (hcd : (x == ("__classdict__" : Str)) = false := by decide) : PE X (.Name x pos) (tM X.K c (eV i)) := (pe_var hN hv hd hcd).imp fun σ H Q ⟨tv, env, td, a, ok⟩ => by
  unfold eV at ok
  cases q : getV i env with
  | none => rw [q] at ok; exact ok.elim
  | some d =>
    rw [q] at ok
    obtain ⟨q1, q2⟩ := getV_some q
    obtain ⟨v, e1, a1⟩ := a.share q1 q2
    exact ⟨v, e1, ok H v a1⟩
end
end Pm

namespace Pm
open PySem PySem.Spec PyProof.Rows L2
/-! ### operators by data -/
def OpM (K : PySem.W.Frag) (r : R2) (op : D → D → Option D) : Prop := ∀ {c : Cn} {σ : Sl} {H : Hp} {tv : List V} {env td : List D} {x y : V} {d1 d2 d : D} {Q : VK},
  A K c σ H (y :: x :: tv) env (d2 :: d1 :: td) → op d1 d2 = some d → (∀ H' v, A K c σ H' (v :: tv) env (d :: td) → Q v H') → r x y H Q
def orO {α : Type} (a b : Option α) : Option α := match a with
  | some x => some x
  | none => b
theorem OpM.or {K : PySem.W.Frag} {r r' : R2} {op op' : D → D → Option D} (h : OpM K r op) (h' : OpM K r' op') : OpM K (fun x y H Q => r x y H Q ∨ r' x y H Q) (fun a b => orO (op a b) (op' a b)) := by
  intro c σ H tv env td x y d1 d2 d Q a e q
  cases z : op d1 d2 with
  | some d' =>
    simp only [z, orO] at e
    cases e
    exact .inl (h a z q)
  | none =>
    simp only [z, orO] at e
    exact .inr (h' a e q)
theorem OpM.sv {K : PySem.W.Frag} {r : R2} {op : D → D → Option D} (h : ∀ d1 d2 d, op d1 d2 = some d → ∃ x y v, sv d1 = some x ∧ sv d2 = some y ∧ sv d = some v ∧ ∀ H Q, Q v H → r x y H Q) : OpM K r op := by
  intro c σ H tv env td x y d1 d2 d Q a e q
  obtain ⟨x', y', v, e1, e2, e3, k⟩ := h d1 d2 d e
  have := a.sv2 e1
  have := a.sv e2
  subst x y
  exact k H Q (q H v (a.pop.pop.push e3))
def eBin (op : D → D → Option D) (f g : M D) : M D := bnd f fun a => bnd g fun b => lft (op a b)
section
variable {X : Cx} {c : Cn} {a b e : Expr} {es : List Expr} {f g h : M D} {pos : Pos}
/-- two operands in a row -/
theorem two {op : D → D → Option D} {r : R2} (hm : OpM X.K r op) {σ : Sl} {H : Hp} {Q : VK} (h : tM X.K c (eBin op f g) σ H Q) : tM X.K c f σ H fun x H1 => tM X.K c g σ H1 fun y H2 => r x y H2 Q := by
  obtain ⟨tv, env, td, a, ok⟩ := h
  refine ⟨tv, env, td, a, ok.bnd.mono fun d1 env1 ok1 H1 x a1 => ⟨x :: tv, env1, d1 :: td, a1, (ok1.bnd.over1).mono fun d2 env2 ok2 H2 y a2 => ?_⟩⟩
  obtain ⟨d, e, q⟩ := ok2.lft
  exact hm a2 e q
theorem m_op {o : Operator} {op : D → D → Option D} {r : R2} (ho : OpR X (binaryOp o) r) (hm : OpM X.K r op) (ha : PE X a (tM X.K c f)) (hb : PE X b (tM X.K c g)) : PE X (.BinOp a o b pos) (tM X.K c (eBin op f g)) :=
  (pe_op ho ha hb).imp fun _ _ _ h => two hm h
theorem m_cmp {o : CmpOp} {op : D → D → Option D} {r : R2} (ho : OpR X (compareOp o) r) (hm : OpM X.K r op) (ha : PE X a (tM X.K c f)) (hb : PE X b (tM X.K c g)) (hk : behindInMarks o b = false) : PE X (.Compare a [o] [b] pos) (tM X.K c (eBin op f g)) :=
  (pe_cmpR ho ha hb hk).imp fun _ _ _ h => two hm h
def toB : D → Option Bool
  | .bl b => some b
  | _ => none
/-- a bool's value as a test -/
def qB (f : M D) : M Bool := bnd f fun d => lft (toB d)
theorem A.bl {K : PySem.W.Frag} {c : Cn} {σ : Sl} {H : Hp} {tv : List V} {env td : List D} {v : V} {d : D} {b : Bool} (a : A K c σ H (v :: tv) env (d :: td)) (e : toB d = some b) : v = .bl b := by
  cases d <;> simp only [toB] at e <;> cases e
  exact a.sv rfl
theorem test {σ : Sl} {H : Hp} {Q : Bool → Hp → Prop} (h : tT X.K c (qB f) σ H Q) : tM X.K c f σ H fun x H1 => ∃ k, x = .bl k ∧ Q k H1 := by
  obtain ⟨tv, env, td, a, ok⟩ := h
  refine ⟨tv, env, td, a, ok.bnd.mono fun d1 env1 ok1 H1 x a1 => ?_⟩
  obtain ⟨b, e, q⟩ := ok1.lft
  exact ⟨b, a1.bl e, q H1 a1.pop⟩
theorem t_cmp {o : CmpOp} {op : D → D → Option D} {r : R2} (ho : OpR X (compareOp o) r) (hm : OpM X.K r op) (ha : PE X a (tM X.K c f)) (hb : PE X b (tM X.K c g)) (hk : behindInMarks o b = false) : PT X (.Compare a [o] [b] pos) (tT X.K c (qB (eBin op f g))) :=
  (pt_cmpR ho ha hb hk).imp fun σ H Q h => by
    obtain ⟨tv, env, td, a, ok⟩ := test h
    exact two hm ⟨tv, env, td, a, ok⟩
theorem t_val (he : PE X e (tM X.K c f)) (hw : ∀ whole, isTrue e X.env whole = (do let v ← whole; standAt e.pos; holding [v] (truthy v)) := by intro _; rfl) : PT X e (tT X.K c (qB f)) :=
  (pt_val he hw).imp fun _ _ _ h => test h
/-! ### ints -/
def addI : D → D → Option D
  | .int i, .int j => some (.int (i + j))
  | _, _ => none
def subI : D → D → Option D
  | .int i, .int j => some (.int (i - j))
  | _, _ => none
def mulI : D → D → Option D
  | .int i, .int j => if (-18446744073709551616 < i ∧ i < 18446744073709551616) ∨ (-18446744073709551616 < j ∧ j < 18446744073709551616) then some (.int (i * j)) else none
  | _, _ => none
def divI : D → D → Option D
  | .int i, .int j => if 0 < j ∧ j < 1073741824 then some (.int (i / j)) else none
  | _, _ => none
def modI : D → D → Option D
  | .int i, .int j => if 0 < j then some (.int (i % j)) else none
  | _, _ => none
def powI : D → D → Option D
  | .int i, .int j => if 0 ≤ j ∧ j ≤ 1000000 ∧ i.natAbs < 18446744073709551616 then some (.int (i ^ j.toNat)) else none
  | _, _ => none
theorem mI_add {K : PySem.W.Frag} : OpM K (rI0 fun i j => .int (i + j)) addI := OpM.sv fun d1 d2 d e => by
  cases d1 <;> cases d2 <;> simp only [addI] at e <;> cases e
  exact ⟨_, _, _, rfl, rfl, rfl, fun H Q q => ⟨_, _, rfl, rfl, q⟩⟩
theorem mI_sub {K : PySem.W.Frag} : OpM K (rI0 fun i j => .int (i - j)) subI := OpM.sv fun d1 d2 d e => by
  cases d1 <;> cases d2 <;> simp only [subI] at e <;> cases e
  exact ⟨_, _, _, rfl, rfl, rfl, fun H Q q => ⟨_, _, rfl, rfl, q⟩⟩
theorem mI_mul {K : PySem.W.Frag} : OpM K (rI CMul fun i j => .int (i * j)) mulI := OpM.sv fun d1 d2 d e => by
  cases d1 <;> cases d2 <;> simp only [mulI] at e <;> try cases e
  rename_i i j
  by_cases h : (-18446744073709551616 < i ∧ i < 18446744073709551616) ∨ (-18446744073709551616 < j ∧ j < 18446744073709551616)
  · rw [if_pos h] at e
    cases e
    exact ⟨_, _, _, rfl, rfl, rfl, fun H Q q => ⟨_, _, rfl, rfl, by unfold CMul; simpa using h, q⟩⟩
  · rw [if_neg h] at e; cases e
theorem mI_div {K : PySem.W.Frag} : OpM K (rI CDiv fun i j => .int (i / j)) divI := OpM.sv fun d1 d2 d e => by
  cases d1 <;> cases d2 <;> simp only [divI] at e <;> try cases e
  rename_i i j
  by_cases h : 0 < j ∧ j < 1073741824
  · rw [if_pos h] at e
    cases e
    exact ⟨_, _, _, rfl, rfl, rfl, fun H Q q => ⟨_, _, rfl, rfl, h, q⟩⟩
  · rw [if_neg h] at e; cases e
theorem mI_mod {K : PySem.W.Frag} : OpM K (rI (fun _ j => 0 < j) fun i j => .int (i % j)) modI := OpM.sv fun d1 d2 d e => by
  cases d1 <;> cases d2 <;> simp only [modI] at e <;> try cases e
  rename_i i j
  by_cases h : 0 < j
  · rw [if_pos h] at e
    cases e
    exact ⟨_, _, _, rfl, rfl, rfl, fun H Q q => ⟨_, _, rfl, rfl, h, q⟩⟩
  · rw [if_neg h] at e; cases e
theorem mI_pow {K : PySem.W.Frag} : OpM K (rI CPow fun i j => .int (i ^ j.toNat)) powI := OpM.sv fun d1 d2 d e => by
  cases d1 <;> cases d2 <;> simp only [powI] at e <;> try cases e
  rename_i i j
  by_cases h : 0 ≤ j ∧ j ≤ 1000000 ∧ i.natAbs < 18446744073709551616
  · rw [if_pos h] at e
    cases e
    exact ⟨_, _, _, rfl, rfl, rfl, fun H Q q => ⟨_, _, rfl, rfl, by unfold CPow; simpa using h, q⟩⟩
  · rw [if_neg h] at e; cases e
def ltI : D → D → Option D
  | .int i, .int j => some (.bl (decide (i < j)))
  | _, _ => none
def leI : D → D → Option D
  | .int i, .int j => some (.bl (decide (i ≤ j)))
  | _, _ => none
def gtI : D → D → Option D
  | .int i, .int j => some (.bl (decide (j < i)))
  | _, _ => none
def geI : D → D → Option D
  | .int i, .int j => some (.bl (decide (j ≤ i)))
  | _, _ => none
theorem mI_lt {K : PySem.W.Frag} : OpM K (rI0 fun i j => .bl (decide (i < j))) ltI := OpM.sv fun d1 d2 d e => by
  cases d1 <;> cases d2 <;> simp only [ltI] at e <;> cases e
  exact ⟨_, _, _, rfl, rfl, rfl, fun H Q q => ⟨_, _, rfl, rfl, q⟩⟩
theorem mI_le {K : PySem.W.Frag} : OpM K (rI0 fun i j => .bl (decide (i ≤ j))) leI := OpM.sv fun d1 d2 d e => by
  cases d1 <;> cases d2 <;> simp only [leI] at e <;> cases e
  exact ⟨_, _, _, rfl, rfl, rfl, fun H Q q => ⟨_, _, rfl, rfl, q⟩⟩
theorem mI_gt {K : PySem.W.Frag} : OpM K (rI0 fun i j => .bl (decide (j < i))) gtI := OpM.sv fun d1 d2 d e => by
  cases d1 <;> cases d2 <;> simp only [gtI] at e <;> cases e
  exact ⟨_, _, _, rfl, rfl, rfl, fun H Q q => ⟨_, _, rfl, rfl, q⟩⟩
theorem mI_ge {K : PySem.W.Frag} : OpM K (rI0 fun i j => .bl (decide (j ≤ i))) geI := OpM.sv fun d1 d2 d e => by
  cases d1 <;> cases d2 <;> simp only [geI] at e <;> cases e
  exact ⟨_, _, _, rfl, rfl, rfl, fun H Q q => ⟨_, _, rfl, rfl, q⟩⟩
/-! ### and, or, not, if; as tests -/
def qAnd (p q : M Bool) : M Bool := bnd p fun b => if b then q else ret false
def qOr (p q : M Bool) : M Bool := bnd p fun b => if b then ret true else q
def qNot (p : M Bool) : M Bool := bnd p fun b => ret (!b)
variable {p q : M Bool} {rest : List Expr}
theorem t_not (ha : PT X a (tT X.K c p)) : PT X (.UnaryOp .Not a pos) (tT X.K c (qNot p)) := (pt_not ha).imp fun σ H Q ⟨tv, env, td, a, ok⟩ =>
  ⟨tv, env, td, a, ok.bnd.mono fun b e ok1 => ok1⟩
theorem w_and1 (ha : PT X a (tT X.K c p)) : PW X (.BoolOp .And [a] pos) (tT X.K c p) := pw_and1 ha
theorem w_or1 (ha : PT X a (tT X.K c p)) : PW X (.BoolOp .Or [a] pos) (tT X.K c p) := pw_or1 ha
theorem w_and (ha : PT X a (tT X.K c p)) (hb : PW X (.BoolOp .And (b :: rest) pos) (tT X.K c q)) : PW X (.BoolOp .And (a :: b :: rest) pos) (tT X.K c (qAnd p q)) := (pw_and ha hb).imp fun σ H Q ⟨tv, env, td, a, ok⟩ =>
  ⟨tv, env, td, a, ok.bnd.mono fun b e ok1 H1 a1 => by
    cases b with
    | true => exact ⟨tv, e, td, a1, ok1⟩
    | false => exact ok1 H1 a1⟩
theorem w_or (ha : PT X a (tT X.K c p)) (hb : PW X (.BoolOp .Or (b :: rest) pos) (tT X.K c q)) : PW X (.BoolOp .Or (a :: b :: rest) pos) (tT X.K c (qOr p q)) := (pw_or ha hb).imp fun σ H Q ⟨tv, env, td, a, ok⟩ =>
  ⟨tv, env, td, a, ok.bnd.mono fun b e ok1 H1 a1 => by
    cases b with
    | false => exact ⟨tv, e, td, a1, ok1⟩
    | true => exact ok1 H1 a1⟩
/-! .. as values -/
def eAnd (f g : M D) : M D := bnd f fun d => bnd (lft (toB d)) fun b => if b then g else ret (.bl false)
def eOr (f g : M D) : M D := bnd f fun d => bnd (lft (toB d)) fun b => if b then ret (.bl true) else g
def eNot (f : M D) : M D := bnd f fun d => bnd (lft (toB d)) fun b => ret (.bl (!b))
def eIf (p : M Bool) (f g : M D) : M D := bnd p fun b => if b then f else g
theorem m_one {op} (h : PE X a (tM X.K c f)) : PE X (.BoolOp op [a] pos) (tM X.K c f) := pe_one h
theorem Ok.lftb {K : PySem.W.Frag} {c : Cn} {σ : Sl} {tv : List V} {td : List D} {α β : Type} {o : Option α} {k : α → M β} {env : List D} {P : β → List D → Prop} (h : Ok K c σ tv td (Pm.bnd (Pm.lft o) k env) P) : ∃ a, o = some a ∧ Ok K c σ tv td (k a env) P := by
  cases o with
  | some a => exact ⟨a, rfl, h⟩
  | none => exact h.elim
theorem m_and (ha : PE X a (tM X.K c f)) (hb : PE X (.BoolOp .And (b :: rest) pos) (tM X.K c g)) : PE X (.BoolOp .And (a :: b :: rest) pos) (tM X.K c (eAnd f g)) := (pe_and ha hb).imp fun σ H Q ⟨tv, env, td, a, ok⟩ =>
  ⟨tv, env, td, a, ok.bnd.mono fun d e ok1 H1 x a1 => by
    obtain ⟨b, eb, ok2⟩ := ok1.lftb
    refine ⟨b, a1.bl eb, ?_⟩
    cases b with
    | true => exact ⟨tv, e, td, a1.pop, ok2⟩
    | false => exact ok2 H1 _ (a1.pop.push rfl)⟩
theorem m_or (ha : PE X a (tM X.K c f)) (hb : PE X (.BoolOp .Or (b :: rest) pos) (tM X.K c g)) : PE X (.BoolOp .Or (a :: b :: rest) pos) (tM X.K c (eOr f g)) := (pe_or ha hb).imp fun σ H Q ⟨tv, env, td, a, ok⟩ =>
  ⟨tv, env, td, a, ok.bnd.mono fun d e ok1 H1 x a1 => by
    obtain ⟨b, eb, ok2⟩ := ok1.lftb
    refine ⟨b, a1.bl eb, ?_⟩
    cases b with
    | false => exact ⟨tv, e, td, a1.pop, ok2⟩
    | true => exact ok2 H1 _ (a1.pop.push rfl)⟩
theorem m_not (ha : PE X a (tM X.K c f)) : PE X (.UnaryOp .Not a pos) (tM X.K c (eNot f)) := (pe_not ha).imp fun σ H Q ⟨tv, env, td, a, ok⟩ =>
  ⟨tv, env, td, a, ok.bnd.mono fun d e ok1 H1 x a1 => by
    obtain ⟨b, eb, ok2⟩ := ok1.lftb
    exact ⟨b, a1.bl eb, ok2 H1 _ (a1.pop.push rfl)⟩⟩
theorem m_ifExp {cc : Expr} (hc : PT X cc (tT X.K c p)) (ha : PE X a (tM X.K c f)) (hb : PE X b (tM X.K c g)) : PE X (.IfExp cc a b pos) (tM X.K c (eIf p f g)) := (pe_ifExp hc ha hb).imp fun σ H Q ⟨tv, env, td, a, ok⟩ =>
  ⟨tv, env, td, a, ok.bnd.mono fun d e ok1 H1 a1 => by
    cases d with
    | true => exact ⟨tv, e, td, a1, ok1⟩
    | false => exact ⟨tv, e, td, a1, ok1⟩⟩
/-! unary minus -/
def negI : D → Option D
  | .int i => some (.int (-i))
  | _ => none
def eUn (op : D → Option D) (f : M D) : M D := bnd f fun d => lft (op d)
theorem m_neg (ha : PE X a (tM X.K c f)) : PE X (.UnaryOp .USub a pos) (tM X.K c (eUn negI f)) := (pe_un un_neg ha).imp fun σ H Q ⟨tv, env, td, a, ok⟩ =>
  ⟨tv, env, td, a, ok.bnd.mono fun d e ok1 H1 x a1 => by
    obtain ⟨d', e', q⟩ := ok1.lft
    cases d <;> simp only [negI] at e' <;> cases e'
    have := a1.sv rfl
    subst x
    exact ⟨_, rfl, q H1 _ (a1.pop.push rfl)⟩⟩
/-! is None -/
def isR : D → Bool
  | .tup _ | .lst _ | .ins _ _ | .dct _ _ | .otup _ | .olst _ | .oins _ _ | .odct _ _ => true
  | _ => false
theorem Rep.isR {K : PySem.W.Frag} {cl : ClT} {R H : Hp} {f : List Addr} {v : V} {d : D} (h : Rep K cl R H f v d) (e : isR d = true) : ∃ a, v = .ref a := by
  cases d <;> simp only [Pm.isR] at e <;> first | (cases e; done) | skip
  all_goals simp only [Rep] at h
  · obtain ⟨_, a, _, h, _⟩ := h; exact ⟨a, h⟩
  · obtain ⟨_, a, _, h, _⟩ := h; exact ⟨a, h⟩
  · obtain ⟨_, a, _, _, _, h, _⟩ := h; exact ⟨a, h⟩
  · obtain ⟨_, a, _, h, _⟩ := h; exact ⟨a, h⟩
  · obtain ⟨a, _, h, _⟩ := h; exact ⟨a, h⟩
  · obtain ⟨a, _, _, h, _⟩ := h; exact ⟨a, h⟩
  · obtain ⟨a, _, _, _, _, h, _⟩ := h; exact ⟨a, h⟩
  · obtain ⟨a, _, _, h, _⟩ := h; exact ⟨a, h⟩
def isN (d : D) : Option Bool := match sv d with
  | some x => some (decide (x = .non))
  | none => if isR d then some false else none
theorem A.temp {K : PySem.W.Frag} {c : Cn} {σ : Sl} {H : Hp} {tv : List V} {env td : List D} {v : V} {d : D} (a : A K c σ H (v :: tv) env (d :: td)) : ∃ R f, Rep K c.cl R H f v d ∧ Same R H := by
  obtain ⟨R, fs, ft, S⟩ := a
  obtain ⟨f, g, rfl, h1, h2⟩ := S.temps.inv
  exact ⟨R, f, h1, S.same⟩
theorem A.isN {K : PySem.W.Frag} {c : Cn} {σ : Sl} {H : Hp} {tv : List V} {env td : List D} {v : V} {d : D} {b : Bool} (a : A K c σ H (v :: tv) env (d :: td)) (e : isN d = some b) : decide (v = .non) = b := by
  unfold Pm.isN at e
  cases q : Pm.sv d with
  | some x =>
    rw [q] at e
    rw [a.sv q]
    exact Option.some.inj e
  | none =>
    rw [q] at e
    cases r : Pm.isR d with
    | false => simp [r] at e
    | true =>
      simp [r] at e
      obtain ⟨R, f, h, _⟩ := a.temp
      obtain ⟨x, rfl⟩ := h.isR r
      rw [e]
      rfl
def eIsN (f : M D) : M D := bnd f fun d => bnd (lft (isN d)) fun b => ret (.bl b)
def eNotN (f : M D) : M D := bnd f fun d => bnd (lft (isN d)) fun b => ret (.bl (!b))
theorem m_isN {j pos'} (ha : PE X a (tM X.K c f)) : PE X (.Compare a [.Is] [.Constant .none j pos'] pos) (tM X.K c (eIsN f)) := (pe_cmp (pc_isN ha)).imp fun σ H Q ⟨tv, env, td, a, ok⟩ =>
  ⟨tv, env, td, a, ok.bnd.mono fun d e ok1 H1 x a1 => by
    obtain ⟨b, eb, ok2⟩ := ok1.lftb
    rw [a1.isN eb]
    exact ok2 H1 _ (a1.pop.push rfl)⟩
theorem m_notN {j pos'} (ha : PE X a (tM X.K c f)) : PE X (.Compare a [.IsNot] [.Constant .none j pos'] pos) (tM X.K c (eNotN f)) := (pe_cmp (pc_notN ha)).imp fun σ H Q ⟨tv, env, td, a, ok⟩ =>
  ⟨tv, env, td, a, ok.bnd.mono fun d e ok1 H1 x a1 => by
    obtain ⟨b, eb, ok2⟩ := ok1.lftb
    rw [a1.isN eb]
    exact ok2 H1 _ (a1.pop.push rfl)⟩
end
end Pm

namespace Pm
open PySem PySem.Spec PyProof.Rows L2
/-! ### sequences -/
def lstOf : D → Option (List D)
  | .lst l | .olst l => some l
  | _ => none
def tupOf : D → Option (List D)
  | .tup l | .otup l => some l
  | _ => none
section
variable {K : PySem.W.Frag} {cl : ClT} {R H : Hp} {fp : List Addr} {v : V} {d : D} {ds : List D}
theorem Rep.lstOf (h : Rep K cl R H fp v d) (e : lstOf d = some ds) (s : Same R H) : ∃ a vs f, v = .ref a ∧ SqL K H a vs ∧ RepL K cl R H f vs ds ∧ (fp = f ∨ fp = a :: f) := by
  cases d <;> simp only [Pm.lstOf] at e <;> cases e
  · simp only [Rep] at h
    obtain ⟨rfl, a, vs, h1, h2, h3⟩ := h
    exact ⟨a, vs, [], h1, s.seq h2, h3, .inl rfl⟩
  · simp only [Rep] at h
    obtain ⟨a, vs, f, h1, h2, h3, h4⟩ := h
    exact ⟨a, vs, f, h1, SqL.of h2, h4, .inr h3⟩
theorem Rep.tupOf (h : Rep K cl R H fp v d) (e : tupOf d = some ds) (s : Same R H) : ∃ a vs, v = .ref a ∧ SqT K H a vs ∧ SqT K R a vs ∧ RepL K cl R H fp vs ds := by
  cases d <;> simp only [Pm.tupOf] at e <;> cases e
  · simp only [Rep] at h
    obtain ⟨rfl, a, vs, h1, h2, h3⟩ := h
    exact ⟨a, vs, h1, SqT.mono h2 s, h2, h3⟩
  · simp only [Rep] at h
    obtain ⟨a, vs, h1, h2, h3⟩ := h
    exact ⟨a, vs, h1, SqT.mono h2 s, h2, h3⟩
end
section
variable {K : PySem.W.Frag} {c : Cn} {σ : Sl} {H : Hp} {tv vs : List V} {env td ds : List D} {v w : V} {d d' : D}
theorem A.same_len (a : A K c σ H tv env td) : tv.length = td.length := a.len.2
theorem A.lstOf (a : A K c σ H (v :: tv) env (d :: td)) (e : lstOf d = some ds) : ∃ p vs, v = .ref p ∧ SqL K H p vs ∧ A K c σ H (vs ++ tv) env (ds ++ td) := by
  obtain ⟨R, fs, ft, S⟩ := a
  obtain ⟨f, g, rfl, h1, h2⟩ := S.temps.inv
  obtain ⟨p, vs, f', rfl, h3, h4, h5⟩ := h1.lstOf e S.same
  refine ⟨p, vs, rfl, h3, R, fs, f' ++ g, S.sub S.slots (h4.append h2) ?_ fun _ _ => rfl⟩
  rcases h5 with rfl | rfl
  · exact ⟨[], by simp⟩
  · refine ⟨[p], ?_⟩
    rw [List.append_assoc]
    exact List.Perm.append_left _ (by rw [List.append_assoc, List.cons_append]; exact (List.Perm.append_left f' List.perm_append_comm).trans (by rw [← List.append_assoc]; exact (List.perm_append_comm (l₁ := f') (l₂ := [p])).append_right g))
theorem A.tupOf (a : A K c σ H (v :: tv) env (d :: td)) (e : tupOf d = some ds) : ∃ p vs, v = .ref p ∧ SqT K H p vs ∧ A K c σ H (vs ++ tv) env (ds ++ td) := by
  obtain ⟨R, fs, ft, S⟩ := a
  obtain ⟨f, g, rfl, h1, h2⟩ := S.temps.inv
  obtain ⟨p, vs, rfl, h3, _, h4⟩ := h1.tupOf e S.same
  exact ⟨p, vs, rfl, h3, R, fs, f ++ g, S.perm S.slots (h4.append h2) (.refl _) fun _ _ => rfl⟩
theorem perm3 {α : Type} (a b c : List α) : (a ++ (b ++ c)).Perm (b ++ (a ++ c)) := by
  rw [← List.append_assoc, ← List.append_assoc]
  exact List.perm_append_comm.append_right c
/-- one of several values under way stays -/
theorem A.pickT (a : A K c σ H (vs ++ tv) env (ds ++ td)) (hl : vs.length = ds.length) {j : Nat} (e : ds[j]? = some d) : ∃ v, vs[j]? = some v ∧ A K c σ H (v :: tv) env (d :: td) := by
  obtain ⟨R, fs, ft, S⟩ := a
  obtain ⟨f, g, rfl, h1, h2⟩ := S.temps.split hl
  have key : ∀ (ds : List D) (f : List Addr) (vs : List V) (j : Nat), RepL K c.cl R H f vs ds → ds[j]? = some d → ∃ v f1 f2, vs[j]? = some v ∧ Rep K c.cl R H f1 v d ∧ (f1 ++ f2).Perm f := by
    intro ds
    induction ds with
    | nil => intro f vs j _ e; simp at e
    | cons d0 ds ih =>
      intro f vs j h e
      obtain ⟨f1, f2, x, xs, rfl, rfl, h1, h2⟩ := RepL.cons_iff.mp h
      cases j with
      | zero =>
        have : d0 = d := by simpa using e
        subst this
        exact ⟨x, f1, f2, rfl, h1, .refl _⟩
      | succ j =>
        obtain ⟨v, g1, g2, e1, h3, p⟩ := ih f2 xs j h2 (by simpa using e)
        exact ⟨v, g1, f1 ++ g2, by simpa using e1, h3, (perm3 g1 f1 g2).trans (List.Perm.append_left _ p)⟩
  obtain ⟨v, f1, f2, e1, h3, p⟩ := key ds f vs j h1 e
  refine ⟨v, e1, R, fs, f1 ++ g, S.sub S.slots (RepL.cons h3 h2) ⟨f2, ?_⟩ fun _ _ => rfl⟩
  rw [List.append_assoc]
  refine List.Perm.append_left _ ?_
  rw [List.append_assoc]
  exact (List.Perm.append_left f1 List.perm_append_comm).trans (by rw [← List.append_assoc]; exact p.append_right g)
/-- the last of several comes first -/
theorem A.rot (a : A K c σ H (vs ++ v :: tv) env (ds ++ d :: td)) (hl : vs.length = ds.length) : A K c σ H (v :: (vs ++ tv)) env (d :: (ds ++ td)) := by
  obtain ⟨R, fs, ft, S⟩ := a
  obtain ⟨f, g, rfl, h1, h2⟩ := S.temps.split hl
  obtain ⟨f2, g2, rfl, h3, h4⟩ := h2.inv
  exact ⟨R, fs, f2 ++ (f ++ g2), S.perm S.slots (RepL.cons h3 (h1.append h4)) (List.Perm.append_left _ (perm3 _ _ _)) fun _ _ => rfl⟩
/-- what is under way is shared -/
theorem A.fz (a : A K c σ H (v :: tv) env (d :: td)) : A K c σ H (v :: tv) env (freeze d :: td) := by
  obtain ⟨R, fs, ft, S⟩ := a
  obtain ⟨f, g, rfl, h1, h2⟩ := S.temps.inv
  obtain ⟨n1, n2, n3⟩ := List.nodup_append.mp S.nd
  obtain ⟨n4, n5, n6⟩ := List.nodup_append.mp n2
  have sub : ∀ b ∈ f, b ∈ fs ++ (f ++ g) := fun b hb => List.mem_append_right _ (List.mem_append_left _ hb)
  have ev : Ev R H f (Pm.fz R H f) H := Ev.freeze S.same (fun _ z => z) fun b hb => (S.own b (sub b hb)).1
  refine ⟨Pm.fz R H f, fs, [] ++ g, SI.goT (vs := [v]) (ds := [d]) (vs1 := [v]) (ds1 := [freeze d]) S h2 ev (fun b hb => ?_) (RepL.cons (f := []) (g := []) (Rep.freeze ev.s1 d (fun b hb o q => by unfold Pm.fz; rw [if_pos hb]; exact q) h1) (RepL.nil_iff.mpr ⟨rfl, rfl⟩)) List.nodup_nil fun _ z => nomatch z⟩
  have nf : b ∉ f := fun z => by
    rcases List.mem_append.mp hb with y | y
    · exact n3 b y b (List.mem_append_left _ z) rfl
    · exact n6 b z b y rfl
  have hm : b ∈ fs ++ (f ++ g) := by
    rcases List.mem_append.mp hb with y | y
    · exact List.mem_append_left _ y
    · exact List.mem_append_right _ (List.mem_append_right _ y)
  unfold Pm.fz
  rw [if_neg nf]
  exact (S.own b hm).1
/-- a new list of what is under way -/
theorem A.newL {p : Addr} (a : A K c σ H (vs ++ tv) env (ds ++ td)) (hl : vs.length = ds.length) (hp : H p = none) : A K c σ (upd H p (.lst vs)) (.ref p :: tv) env (.olst ds :: td) := by
  obtain ⟨R, fs, ft, S⟩ := a
  obtain ⟨f, g, rfl, h1, h2⟩ := S.temps.split hl
  have nd := S.nd
  obtain ⟨n1, n2, n3⟩ := List.nodup_append.mp nd
  obtain ⟨n4, n5, n6⟩ := List.nodup_append.mp n2
  have ev : Ev R H f R (upd H p (.lst vs)) := Ev.alloc S.same hp
  have hpf : ∀ b ∈ f, b ≠ p := fun b hb q => by
    obtain ⟨o, z⟩ := (S.own b (List.mem_append_right _ (List.mem_append_left _ hb))).2.1
    rw [q, hp] at z; cases z
  have rp : R p = none := S.same.free hp
  refine ⟨R, fs, (p :: f) ++ g, SI.goT (vs1 := [.ref p]) (ds1 := [.olst ds]) (f1 := p :: f) S h2 ev (fun b hb => ?_) ?_ ?_ fun b hb => ?_⟩
  · have hm : b ∈ fs ++ (f ++ g) := by
      rcases List.mem_append.mp hb with y | y
      · exact List.mem_append_left _ y
      · exact List.mem_append_right _ (List.mem_append_right _ y)
    exact (S.own b hm).1
  · have : RepL K c.cl R (upd H p (.lst vs)) (p :: f ++ []) [.ref p] [.olst ds] := RepL.cons (by
      simp only [Rep]
      exact ⟨p, vs, f, rfl, upd_same, rfl, RepL.mono (Same.refl R) _ (fun b hb => upd_ne (hpf b hb)) h1⟩) (RepL.nil_iff.mpr ⟨rfl, rfl⟩)
    simpa using this
  · exact List.nodup_cons.mpr ⟨fun z => hpf p z rfl, n4⟩
  · rcases List.mem_cons.mp hb with rfl | hb
    · exact ⟨rp, ⟨_, upd_same⟩, .inr hp⟩
    · obtain ⟨h3, ⟨o, h4⟩, _⟩ := S.own b (List.mem_append_right _ (List.mem_append_left _ hb))
      exact ⟨h3, ⟨o, by rw [upd_ne (hpf b hb)]; exact h4⟩, .inl hb⟩
def mkT (ds : List D) : D := if ds.all (fun d => !isO d) then .tup ds else .otup ds
theorem rep_mkT {cl : ClT} {R : Hp} {f : List Addr} {p : Addr} (h : RepL K cl R H f vs ds) (hp : SqT K R p vs) : Rep K cl R H f (.ref p) (mkT ds) := by
  unfold mkT
  by_cases q : ds.all (fun d => !isO d) = true
  · rw [if_pos q]
    have := h.fp_nil q
    subst this
    simp only [Rep]
    exact ⟨trivial, p, vs, rfl, hp, h⟩
  · rw [if_neg q]
    simp only [Rep]
    exact ⟨p, vs, rfl, hp, h⟩
/-- a new tuple of what is under way -/
theorem A.newT {p : Addr} (a : A K c σ H (vs ++ tv) env (ds ++ td)) (hl : vs.length = ds.length) (hp : H p = none) : A K c σ (upd H p (.tup vs)) (.ref p :: tv) env (mkT ds :: td) := by
  obtain ⟨R, fs, ft, S⟩ := a
  obtain ⟨f, g, rfl, h1, h2⟩ := S.temps.split hl
  obtain ⟨n1, n2, n3⟩ := List.nodup_append.mp S.nd
  obtain ⟨n4, n5, n6⟩ := List.nodup_append.mp n2
  have ev : Ev R H f (upd R p (.tup vs)) (upd H p (.tup vs)) := Ev.allocT S.same hp
  have hpf : ∀ b ∈ fs ++ (f ++ g), b ≠ p := fun b hb q => by
    obtain ⟨o, z⟩ := (S.own b hb).2.1
    rw [q, hp] at z; cases z
  have sub : ∀ b ∈ f, b ∈ fs ++ (f ++ g) := fun b hb => List.mem_append_right _ (List.mem_append_left _ hb)
  refine ⟨upd R p (.tup vs), fs, f ++ g, SI.goT (vs1 := [.ref p]) (ds1 := [mkT ds]) (f1 := f) S h2 ev (fun b hb => ?_) ?_ n4 fun b hb => ?_⟩
  · have hm : b ∈ fs ++ (f ++ g) := by
      rcases List.mem_append.mp hb with y | y
      · exact List.mem_append_left _ y
      · exact List.mem_append_right _ (List.mem_append_right _ y)
    rw [upd_ne (hpf b hm)]
    exact (S.own b hm).1
  · have : RepL K c.cl (upd R p (.tup vs)) (upd H p (.tup vs)) (f ++ []) [.ref p] [mkT ds] := RepL.cons (rep_mkT (RepL.mono ev.s1 _ (fun b hb => upd_ne (hpf b (sub b hb))) h1) (SqT.of upd_same)) (RepL.nil_iff.mpr ⟨rfl, rfl⟩)
    simpa using this
  · obtain ⟨h3, ⟨o, h4⟩, _⟩ := S.own b (sub b hb)
    exact ⟨by rw [upd_ne (hpf b (sub b hb))]; exact h3, ⟨o, by rw [upd_ne (hpf b (sub b hb))]; exact h4⟩, .inl hb⟩
/-- the very tuple again, other data of the same parts -/
theorem A.sameT {p : Addr} (a : A K c σ H (.ref p :: tv) env (d :: td)) (e : Pm.tupOf d = some ds) : A K c σ H (.ref p :: tv) env (mkT ds :: td) := by
  obtain ⟨R, fs, ft, S⟩ := a
  obtain ⟨f, g, rfl, h1, h2⟩ := S.temps.inv
  obtain ⟨q, vs, eq, _, h3, h4⟩ := h1.tupOf e S.same
  cases eq
  exact ⟨R, fs, f ++ g, S.perm S.slots (RepL.cons (rep_mkT h4 h3) h2) (.refl _) fun _ _ => rfl⟩
end
/-! ### arguments, displays -/
section
variable {X : Cx} {c : Cn} {a b e : Expr} {es : List Expr} {f g : M D} {pos : Pos} {tk : List (Option Nat)} {m : M (List D)}
def aNil : M (List D) := ret []
def aCons (f : M D) (g : M (List D)) : M (List D) := bnd f fun d => bnd g fun ds => ret (d :: ds)
def eFz (f : M D) : M D := bnd f fun d => ret (freeze d)
def eTk (i : Nat) : M D := fun env => match getV i env with
  | some d => .ok d (env.set i .un)
  | none => .bad
theorem m_fz (h : PE X e (tM X.K c f)) : PE X e (tM X.K c (eFz f)) := h.imp fun σ H Q ⟨tv, env, td, a, ok⟩ => ⟨tv, env, td, a, ok.bnd.mono fun d e1 ok1 H1 v a1 => ok1 H1 v a1.fz⟩
theorem a_nil : PA X [] (tA X.K c [] aNil) := pa_nil.imp fun σ H Q ⟨tv, env, td, a, ok⟩ => ok H [] rfl ⟨rfl, fun k i e => by simp at e⟩ a
theorem a_cons (h1 : PE X e (tM X.K c f)) (h2 : PA X es (tA X.K c tk m)) (hs : starEach (e :: es) X.env = (false, eval e X.env) :: starEach es X.env := by rfl) : PA X (e :: es) (tA X.K c (none :: tk) (aCons f m)) :=
  (pa_cons h1 h2 hs).imp fun σ H Q ⟨tv, env, td, a, ok⟩ => ⟨tv, env, td, a, ok.bnd.mono fun d e1 ok1 H1 x a1 =>
    ⟨x :: tv, e1, d :: td, a1, (ok1.bnd.over1).mono fun ds e2 ok2 H2 vs hl hk a2 => ok2 H2 (x :: vs) (by simp [hl]) ⟨by simp [hk.1], fun k i q => by
      cases k with
      | zero => cases q
      | succ k => simpa using hk.2 k i (by simpa using q)⟩ (a2.rot hl)⟩⟩
/-- a slot's thing is taken out -/
theorem A.takeS {K : PySem.W.Frag} {σ : Sl} {H : Hp} {tv : List V} {env td : List D} {i : Nat} {d : D} (a : A K c σ H tv env td) (e : env[i]? = some d) (n : isU d = false) : ∃ v, σ[i]? = some (some v) ∧ A K c σ H (v :: tv) (env.set i .un) (d :: td) := by
  obtain ⟨R, fs, ft, S⟩ := a
  obtain ⟨f, g, x, e1, p, h1, k⟩ := RepS.take S.slots e
  obtain ⟨v, rfl, h2⟩ := h1.some_of n
  obtain ⟨fp', p', hs⟩ := k R H (Same.refl R) (fun _ _ => rfl) [] (some v) .un (by simp only [RepO, Rep])
  rw [set_self e1] at hs
  refine ⟨v, e1, R, fp', f ++ ft, S.perm hs (RepL.cons h2 S.temps) ?_ fun _ _ => rfl⟩
  exact (List.Perm.append_right _ p').trans ((perm3 g f ft).trans (by rw [← List.append_assoc]; exact p.symm.append_right ft))
theorem a_take (i : Nat) {x : Str} {p : Pos} (hN : X.N[i]? = some x) (hv : Vis X.env.scope x) (h2 : PA X es (tA X.K c tk m)) (hs : starEach (.Name x p :: es) X.env = (false, eval (.Name x p) X.env) :: starEach es X.env := by rfl)
    (hd : (x == ("__debug__" : Str)) = false := by decide) (hcd : (x == ("__classdict__" : Str)) = false := by decide) : PA X (.Name x p :: es) (tA X.K c (some i :: tk) (aCons (eTk i) m)) :=
  (pa_cons (pe_var hN hv hd hcd) h2 hs).imp fun σ H Q ⟨tv, env, td, a, ok⟩ => by
    have ok' := ok.bnd
    unfold eTk at ok'
    cases q : getV i env with
    | none => rw [q] at ok'; exact ok'.elim
    | some d =>
      rw [q] at ok'
      obtain ⟨q1, q2⟩ := getV_some q
      obtain ⟨v, e1, a1⟩ := a.takeS q1 q2
      refine ⟨v, e1, v :: tv, _, d :: td, a1, ((show Ok X.K c σ tv td (bnd m (fun ds => ret (d :: ds)) (env.set i .un)) _ from ok').bnd.over1).mono fun ds e2 ok2 H2 vs hl hk a2 => ok2 H2 (v :: vs) (by simp [hl]) ⟨by simp [hk.1], fun k j q => ?_⟩ (a2.rot hl)⟩
      cases k with
      | zero =>
        have : i = j := by simpa using q
        subst this
        exact ⟨v, rfl, e1⟩
      | succ k => simpa using hk.2 k j (by simpa using q)
def eTup (m : M (List D)) : M D := bnd m fun ds => bnd (lft (if ds.length ≤ 16777216 then some () else none)) fun _ => ret (mkT ds)
def eLst (m : M (List D)) : M D := bnd m fun ds => bnd (lft (if ds.length ≤ 16777216 then some () else none)) fun _ => ret (.olst ds)
theorem line_of {n : Nat} (h : n ≤ 16777216) : n ≤ sizeLine := by rw [sizeLine_eq]; exact h
theorem if_some {n : Nat} {u : Unit} (e : (if n ≤ 16777216 then some () else none) = some u) : n ≤ 16777216 := by
  by_cases h : n ≤ 16777216
  · exact h
  · rw [if_neg h] at e; cases e
theorem m_tup {k : Nat} (h : PA X es (tA X.K c tk m)) : PE X (.Tuple es k pos) (tM X.K c (eTup m)) := (pe_tup h).imp fun σ H Q ⟨tv, env, td, a, ok⟩ => ⟨tv, env, td, a, ok.bnd.mono fun ds e1 ok1 H1 vs hl hk a1 => by
  obtain ⟨u, eu, ok2⟩ := ok1.lftb
  have hz := if_some eu
  exact ⟨by rw [hl]; exact line_of hz, fun p hp => ok2 _ _ (a1.newT hl hp)⟩⟩
theorem m_lst {k : Nat} (h : PA X es (tA X.K c tk m)) : PE X (.List es pos) (tM X.K c (eLst m)) := (pe_lst h).imp fun σ H Q ⟨tv, env, td, a, ok⟩ => ⟨tv, env, td, a, ok.bnd.mono fun ds e1 ok1 H1 vs hl hk a1 => by
  obtain ⟨u, eu, ok2⟩ := ok1.lftb
  have hz := if_some eu
  exact ⟨by rw [hl]; exact line_of hz, fun p hp => ok2 _ _ (a1.newL hl hp)⟩⟩
/-! ### subscripts -/
def ixD (d1 d2 : D) : Option D := match d2 with
  | .int i => match lstOf d1 with
    | some l => atI l i
    | none => match tupOf d1 with
      | some l => atI l i
      | none => match d1 with
        | .str z => if z.length ≤ 16777216 then (atI z.cps.toList i).map fun c => .str ⟨#[c]⟩ else none
        | _ => none
  | _ => none
theorem atI_j {α : Type} {xs : List α} {i : Int} {v : α} (h : atI xs i = some v) : ∃ j, ixN xs.length i = some j ∧ xs[j]? = some v := by
  unfold atI at h
  cases q : ixN xs.length i with
  | none => rw [q] at h; cases h
  | some j => rw [q] at h; exact ⟨j, rfl, h⟩
theorem atI_of {α β : Type} {xs : List α} {ys : List β} {i : Int} {j : Nat} {v : α} (e : ixN ys.length i = some j) (hl : xs.length = ys.length) (h : xs[j]? = some v) : atI xs i = some v := by
  unfold atI
  rw [hl, e]
  exact h
theorem mI_ix : OpM X.K (rIx X.K) ixD := by
  intro c σ H tv env td x y d1 d2 d Q a e q
  unfold ixD at e
  cases d2 <;> try (simp at e; done)
  rename_i i
  have := a.sv rfl
  subst y
  have a1 := a.pop
  simp only at e
  cases h1 : lstOf d1 with
  | some l =>
    rw [h1] at e
    obtain ⟨j, e1, e2⟩ := atI_j e
    obtain ⟨p, vs, rfl, hs, a2⟩ := a1.lstOf h1
    have hl : vs.length = l.length := by have := a2.same_len; have := a1.pop.same_len; simp at *; omega
    obtain ⟨v, e3, a3⟩ := a2.pickT hl e2
    exact .inl ⟨p, vs, i, v, rfl, rfl, hs, atI_of e1 hl e3, q H v a3⟩
  | none =>
    rw [h1] at e
    cases h2 : tupOf d1 with
    | some l =>
      rw [h2] at e
      obtain ⟨j, e1, e2⟩ := atI_j e
      obtain ⟨p, vs, rfl, hs, a2⟩ := a1.tupOf h2
      have hl : vs.length = l.length := by have := a2.same_len; have := a1.pop.same_len; simp at *; omega
      obtain ⟨v, e3, a3⟩ := a2.pickT hl e2
      exact .inr (.inl ⟨p, vs, i, v, rfl, rfl, hs, atI_of e1 hl e3, q H v a3⟩)
    | none =>
      rw [h2] at e
      cases d1 <;> try (simp at e; done)
      rename_i z
      simp only at e
      by_cases hz : z.length ≤ 16777216
      · rw [if_pos hz] at e
        cases h3 : atI z.cps.toList i with
        | none => rw [h3] at e; cases e
        | some ch =>
          rw [h3] at e
          cases e
          have := a1.sv rfl
          subst x
          exact .inr (.inr ⟨z, i, ch, rfl, rfl, line_of hz, h3, q H _ (a1.pop.push rfl)⟩)
      · rw [if_neg hz] at e; cases e
theorem m_ix (ha : PE X a (tM X.K c f)) (hb : PE X b (tM X.K c g)) (hs : PlainIx b) : PE X (.Subscript a b pos) (tM X.K c (eBin ixD f g)) := (pe_ix ix_seq ha hb hs).imp fun _ _ _ h => two mI_ix h
end
end Pm

namespace Pm
open PySem PySem.Spec PyProof.Rows L2
/-! ### statements -/
section
variable {K : PySem.W.Frag} {c : Cn} {σ : Sl} {H : Hp} {tv vs : List V} {env td ds : List D} {v w : V} {d d' : D} {α : Type}
theorem A.store {i : Nat} (a : A K c σ H (v :: tv) env (d :: td)) (hm : c.msk.getD i false = false) : A K c (σ.set i (some v)) H tv (env.set i d) td := by
  cases q : env[i]? with
  | none =>
    have h1 : env.length ≤ i := List.getElem?_eq_none_iff.mp q
    have h2 := a.len.1
    rw [List.set_eq_of_length_le h1, List.set_eq_of_length_le (by omega)]
    exact a.pop
  | some d0 =>
    obtain ⟨R, fs, ft, S⟩ := a
    obtain ⟨f, g, rfl, h1, h2⟩ := S.temps.inv
    obtain ⟨f0, g0, x, e1, p, h3, k⟩ := RepS.take S.slots q
    obtain ⟨fp', p', hs⟩ := k R H (Same.refl R) (fun _ _ => rfl) f (some v) d h1
    refine ⟨R, fp', g, S.sub hs h2 ⟨f0, ?_⟩ fun i' hi' => ?_⟩
    · have : (fs ++ (f ++ g)).Perm ((f0 ++ g0) ++ (f ++ g)) := p.append_right _
      refine List.Perm.trans ?_ this.symm
      refine ((p'.append_right g).append_right f0).trans ?_
      simp only [List.append_assoc]
      refine (List.perm_append_comm (l₁ := f) (l₂ := g0 ++ (g ++ f0))).trans ?_
      simp only [List.append_assoc]
      refine List.Perm.trans ?_ (perm3 g0 f0 (f ++ g))
      refine List.Perm.append_left g0 ?_
      refine (perm3 g f0 f).trans (List.Perm.append_left f0 List.perm_append_comm)
    · by_cases h : i' = i
      · rw [h] at hi'; rw [hm] at hi'; cases hi'
      · rw [List.getElem?_set_ne (Ne.symm h)]
/-- a value is put (back) into its slot -/
theorem A.put {i : Nat} (a : A K c σ H (v :: tv) env (d :: td)) (e : σ[i]? = some (some v)) : A K c σ H tv (env.set i d) td := by
  cases q : env[i]? with
  | none =>
    have h1 : env.length ≤ i := List.getElem?_eq_none_iff.mp q
    rw [List.set_eq_of_length_le h1]
    exact a.pop
  | some d0 =>
    obtain ⟨R, fs, ft, S⟩ := a
    obtain ⟨f, g, rfl, h1, h2⟩ := S.temps.inv
    obtain ⟨f0, g0, x, e1, p, h3, k⟩ := RepS.take S.slots q
    obtain ⟨fp', p', hs⟩ := k R H (Same.refl R) (fun _ _ => rfl) f (some v) d h1
    rw [set_self e] at hs
    refine ⟨R, fp', g, S.sub hs h2 ⟨f0, ?_⟩ fun _ _ => rfl⟩
    have : (fs ++ (f ++ g)).Perm ((f0 ++ g0) ++ (f ++ g)) := p.append_right _
    refine List.Perm.trans ?_ this.symm
    refine ((p'.append_right g).append_right f0).trans ?_
    simp only [List.append_assoc]
    refine (List.perm_append_comm (l₁ := f) (l₂ := g0 ++ (g ++ f0))).trans ?_
    simp only [List.append_assoc]
    refine List.Perm.trans ?_ (perm3 g0 f0 (f ++ g))
    refine List.Perm.append_left g0 ?_
    refine (perm3 g f0 f).trans (List.Perm.append_left f0 List.perm_append_comm)
theorem OkS.bnd {D : Ends} {m : M α} {k : α → M Fl} (h : OkS K c tv td D (Pm.bnd m k env)) (σ : Sl) : Ok K c σ tv td (m env) fun a e => OkS K c tv td D (k a e) := by
  unfold Pm.bnd at h
  cases q : m env with
  | ok a e => rw [q] at h; exact h
  | ex x fs e => rw [q] at h; exact fun H cls dd z => h σ H cls dd z
  | bad => rw [q] at h; exact h.elim
theorem OkS.lftb {D : Ends} {o : Option α} {k : α → M Fl} (h : OkS K c tv td D (Pm.bnd (Pm.lft o) k env)) : ∃ a, o = some a ∧ OkS K c tv td D (k a env) := by
  cases o with
  | some a => exact ⟨a, rfl, h⟩
  | none => exact h.elim
theorem OkS.nx {D : Ends} (h : OkS K c tv td D (ret Fl.nx env)) (a : A K c σ H tv env td) : D.nx σ H := h σ H a
end
section
variable {X : Cx} {c : Cn} {a b e : Expr} {es : List Expr} {f g : M D} {p : M Bool} {pos : Pos} {tk : List (Option Nat)} {m : M (List D)} {st : Stmt} {sts sts2 : List Stmt} {s1 s2 : M Fl}
def sSeq (a b : M Fl) : M Fl := bnd a fun fl => match fl with
  | .nx => b
  | x => ret x
def sNx : M Fl := ret .nx
def sBk : M Fl := ret .bk
def sCt : M Fl := ret .ct
def sEx (f : M D) : M Fl := bnd f fun _ => ret .nx
def sRt (f : M D) : M Fl := bnd f fun d => ret (.rt d)
def sIf (p : M Bool) (a b : M Fl) : M Fl := bnd p fun t => if t then a else b
def sBad : M Fl := fun _ => .bad
theorem ss_nil : PSs X [] (tS X.K c sNx) := pss_nil.imp fun D σ H ⟨tv, env, td, a, ok⟩ => ok.nx a
theorem ss_one (h : PS X st (tS X.K c s1)) : PSs X [st] (tS X.K c s1) := pss_one h
theorem ss_cons (h1 : PS X st (tS X.K c s1)) (h2 : PSs X sts (tS X.K c s2)) : PSs X (st :: sts) (tS X.K c (sSeq s1 s2)) := (pss_cons h1 h2).imp fun D σ H ⟨tv, env, td, a, ok⟩ => by
  refine ⟨tv, env, td, a, ?_⟩
  unfold sSeq bnd at ok
  cases q : s1 env with
  | bad => rw [q] at ok; exact ok.elim
  | ex x fs e => rw [q] at ok; exact ok
  | ok fl e =>
    rw [q] at ok
    cases fl with
    | nx => exact fun σ' H' a' => ⟨tv, e, td, a', ok⟩
    | bk => exact ok
    | ct => exact ok
    | rt d => exact ok
theorem s_pass : PS X (.Pass pos) (tS X.K c sNx) := ps_pass.imp fun D σ H ⟨tv, env, td, a, ok⟩ => ok.nx a
theorem s_break : PS X (.Break pos) (tS X.K c sBk) := ps_break.imp fun D σ H ⟨tv, env, td, a, ok⟩ => ok σ H a
theorem s_continue : PS X (.Continue pos) (tS X.K c sCt) := ps_continue.imp fun D σ H ⟨tv, env, td, a, ok⟩ => ok σ H a
theorem s_expr (he : PE X e (tM X.K c f)) (hs : swapsWith e none pos.line X.env = pure false := by rfl) : PS X (.Expr e pos) (tS X.K c (sEx f)) := (ps_expr he hs).imp fun D σ H ⟨tv, env, td, a, ok⟩ =>
  ⟨tv, env, td, a, (ok.bnd σ).mono fun d e1 ok1 H1 v a1 => ok1.nx a1.pop⟩
theorem s_ret (he : PE X e (tM X.K c f)) : PS X (.Return (some e) pos) (tS X.K c (sRt f)) := (ps_ret he).imp fun D σ H ⟨tv, env, td, a, ok⟩ =>
  ⟨tv, env, td, a, (ok.bnd σ).mono fun d e1 ok1 H1 v a1 => ok1 σ H1 v a1⟩
theorem s_retN : PS X (.Return none pos) (tS X.K c (sRt (eC .non))) := ps_retN.imp fun D σ H ⟨tv, env, td, a, ok⟩ => ok σ H _ (a.push rfl)
theorem s_if {cc : Expr} (hc : PT X cc (tT X.K c p)) (ha : PSs X sts (tS X.K c s1)) (hb : PSs X sts2 (tS X.K c s2)) : PS X (.If cc sts sts2 pos) (tS X.K c (sIf p s1 s2)) := (ps_if hc ha hb).imp fun D σ H ⟨tv, env, td, a, ok⟩ =>
  ⟨tv, env, td, a, (ok.bnd σ).mono fun t e1 ok1 H1 a1 => by
    cases t with
    | true => exact ⟨tv, e1, td, a1, ok1⟩
    | false => exact ⟨tv, e1, td, a1, ok1⟩⟩
theorem s_bad : PS X st (tS X.K c sBad) := ps_never.imp fun D σ H ⟨tv, env, td, a, ok⟩ => ok.elim
theorem ss_bad : PSs X sts (tS X.K c sBad) := pss_never.imp fun D σ H ⟨tv, env, td, a, ok⟩ => ok.elim
theorem m_bad {e : Expr} : PE X e (tM X.K c (fun _ => .bad)) := ⟨fun pins s σ H Q I ⟨tv, env, td, a, ok⟩ => ok.elim⟩
/-! targets -/
/-- the slots are the same but at sl -/
def Sm (sl : List Nat) (σ σ' : Sl) : Prop := σ'.length = σ.length ∧ ∀ i, i ∉ sl → σ'[i]? = σ[i]?
theorem Sm.refl {sl : List Nat} {σ : Sl} : Sm sl σ σ := ⟨rfl, fun _ _ => rfl⟩
theorem Sm.trans {s1 s2 : List Nat} {σ σ1 σ2 : Sl} (a : Sm s1 σ σ1) (b : Sm s2 σ1 σ2) : Sm (s1 ++ s2) σ σ2 := ⟨b.1.trans a.1, fun i h => (b.2 i fun z => h (List.mem_append_right _ z)).trans (a.2 i fun z => h (List.mem_append_left _ z))⟩
def tG (K : PySem.W.Frag) (c : Cn) (sl : List Nat) (t : D → M Unit) : TG := fun v σ H Q => ∃ tv env td d, A K c σ H (v :: tv) env (d :: td) ∧ Ok K c σ tv td (t d env) fun _ e => ∀ σ' H', Sm sl σ σ' → A K c σ' H' tv e td → Q σ' H'
def OkG (K : PySem.W.Frag) (c : Cn) (σ : Sl) (sl : List Nat) (tv : List V) (td : List D) (o : Out Unit) (Q : Sl → Hp → Prop) : Prop := match o with
  | .ok _ e => ∀ σ' H', Sm sl σ σ' → A K c σ' H' tv e td → Q σ' H'
  | _ => False
def tGs (K : PySem.W.Frag) (c : Cn) (sl : List Nat) (t : List D → M Unit) : TGs := fun vs σ H Q => ∃ tv env td ds, vs.length = ds.length ∧ A K c σ H (vs ++ tv) env (ds ++ td) ∧ OkG K c σ sl tv td (t ds env) Q
def noEx (t : M Unit) : M Unit := fun env => match t env with
  | .ok u e => .ok u e
  | _ => .bad
def gN (i : Nat) (d : D) : M Unit := fun env => .ok () (env.set i d)
theorem _root_.L2.PG.imp {X : Cx} {e : Expr} {t t' : TG} (h : PG X e t) (k : ∀ v σ H Q, t' v σ H Q → t v σ H Q) : PG X e t' := ⟨fun pins s σ H v u Q I r q => h.run pins s σ H v u Q I r (k v σ H Q q)⟩
theorem _root_.L2.PGs.imp {X : Cx} {e : List Expr} {t t' : TGs} (h : PGs X e t) (k : ∀ v σ H Q, t' v σ H Q → t v σ H Q) : PGs X e t' := ⟨fun pins s σ H v u Q I r q => h.run pins s σ H v u Q I r (k v σ H Q q)⟩
theorem g_name (i : Nat) {x : Str} (hN : X.N.Nodup) (hi : X.N[i]? = some x) (hx : Loc X.env.scope x) (hm : c.msk.getD i false = false) (hf : X.fn x = true ∨ X.env.scope.names.lookup x = some .local := by first | exact .inl rfl | exact .inr rfl | assumption) : PG X (.Name x pos) (tG X.K c [i] (gN i)) :=
  (pg_name hN hi hx hf).imp fun v σ H Q ⟨tv, env, td, d, a, ok⟩ => ok _ H ⟨by simp, fun j h => List.getElem?_set_ne (fun z => h (by simp [z]))⟩ (a.store hm)
def gsNil (ds : List D) : M Unit := fun env => match ds with
  | [] => .ok () env
  | _ => .bad
def gsCons (t : D → M Unit) (u : List D → M Unit) (ds : List D) : M Unit := fun env => match ds with
  | d :: r => bnd (noEx (t d)) (fun _ => noEx (u r)) env
  | [] => .bad
theorem gs_nil : PGs X [] (tGs X.K c [] gsNil) := pgs_nil.imp fun vs σ H Q ⟨tv, env, td, ds, hl, a, ok⟩ => by
  cases ds with
  | nil =>
    have : vs = [] := List.length_eq_zero_iff.mp hl
    subst this
    exact ⟨rfl, ok σ H Sm.refl a⟩
  | cons d r => exact ok.elim
theorem gs_cons {l1 l2 : List Nat} {t : D → M Unit} {u : List D → M Unit} (h1 : PG X e (tG X.K c l1 t)) (h2 : PGs X es (tGs X.K c l2 u)) (hs : (assignEach (e :: es) X.env).map (·.2) = assign e X.env :: (assignEach es X.env).map (·.2) := by rfl) : PGs X (e :: es) (tGs X.K c (l1 ++ l2) (gsCons t u)) :=
  (pgs_cons h1 h2 hs).imp fun vs σ H Q ⟨tv, env, td, ds, hl, a, ok⟩ => by
    cases ds with
    | nil => exact ok.elim
    | cons d r =>
      cases vs with
      | nil => cases hl
      | cons v vr =>
        refine ⟨v, vr, rfl, vr ++ tv, env, r ++ td, d, a, ?_⟩
        have ok' : OkG X.K c σ (l1 ++ l2) tv td (bnd (noEx (t d)) (fun _ => noEx (u r)) env) Q := ok
        unfold bnd noEx at ok'
        cases q : t d env with
        | bad => rw [q] at ok'; exact ok'.elim
        | ex x fs e => rw [q] at ok'; exact ok'.elim
        | ok u0 e1 =>
          rw [q] at ok'
          refine fun σ' H' sm1 a' => ⟨tv, e1, td, r, by simpa using hl, a', ?_⟩
          simp only at ok'
          cases q2 : u r e1 with
          | bad => rw [q2] at ok'; exact ok'.elim
          | ex x fs e => rw [q2] at ok'; exact ok'.elim
          | ok u1 e2 => rw [q2] at ok'; exact fun σ2 H2 sm2 a2 => ok' σ2 H2 (sm1.trans sm2) a2
def seqOf (d : D) : Option (List D) := match tupOf d with
  | some l => some l
  | none => lstOf d
/-- (a, b, ..) = a tuple or a list -/
def gT (n : Nat) (u : List D → M Unit) (d : D) : M Unit := fun env => match seqOf d with
  | some l => if l.length = n then noEx (u l) env else .bad
  | none => .bad
theorem _root_.L2.PG.or {X : Cx} {e : Expr} {t t' : TG} (h : PG X e t) (h' : PG X e t') : PG X e (fun v σ H Q => t v σ H Q ∨ t' v σ H Q) := ⟨fun pins s σ H v u Q I r q => q.elim (h.run pins s σ H v u Q I r) (h'.run pins s σ H v u Q I r)⟩
theorem g_tup {sl : List Nat} {k n : Nat} {u : List D → M Unit} (hc : X.calm = true) (h : PGs X es (tGs X.K c sl u)) (hn : (assignEach es X.env).length = n := by rfl) (hst : (assignEach es X.env).findIdx? (·.1) = none := by rfl) : PG X (.Tuple es k pos) (tG X.K c sl (gT n u)) :=
  ((pg_tup hc h hn hst).or (pg_lst hc h hn hst)).imp fun v σ H Q ⟨tv, env, td, d, a, ok⟩ => by
    unfold gT seqOf at ok
    cases q : tupOf d with
    | some l =>
      rw [q] at ok
      simp only at ok
      by_cases hl : l.length = n
      · rw [if_pos hl] at ok
        obtain ⟨x, vs, rfl, hs, a1⟩ := a.tupOf q
        have hlen : vs.length = l.length := by have := a1.same_len; have := a.pop.same_len; simp at *; omega
        refine .inl ⟨x, vs, rfl, hs, by omega, tv, env, td, l, hlen, a1, ?_⟩
        unfold noEx at ok
        cases q2 : u l env with
        | bad => rw [q2] at ok; exact ok.elim
        | ex x fs e => rw [q2] at ok; exact ok.elim
        | ok u1 e2 => rw [q2] at ok; exact ok
      · rw [if_neg hl] at ok; exact ok.elim
    | none =>
      rw [q] at ok
      simp only at ok
      cases q1 : lstOf d with
      | none => rw [q1] at ok; exact ok.elim
      | some l =>
        rw [q1] at ok
        simp only at ok
        by_cases hl : l.length = n
        · rw [if_pos hl] at ok
          obtain ⟨x, vs, rfl, hs, a1⟩ := a.lstOf q1
          have hlen : vs.length = l.length := by have := a1.same_len; have := a.pop.same_len; simp at *; omega
          refine .inr ⟨x, vs, rfl, hs, by omega, tv, env, td, l, hlen, a1, ?_⟩
          unfold noEx at ok
          cases q2 : u l env with
          | bad => rw [q2] at ok; exact ok.elim
          | ex x fs e => rw [q2] at ok; exact ok.elim
          | ok u1 e2 => rw [q2] at ok; exact ok
        · rw [if_neg hl] at ok; exact ok.elim
def sAsg (f : M D) (t : D → M Unit) : M Fl := bnd f fun d => bnd (t d) fun _ => ret .nx
theorem s_asg {sl : List Nat} {tg : Expr} {t : D → M Unit} (he : PE X e (tM X.K c f)) (hg : PG X tg (tG X.K c sl t)) (hs : swapsWithSole [tg] e pos.line X.env = pure false := by rfl) (hw : swappedStores [tg] e X.env = pure none := by rfl)
    (h1 : (assignEach [tg] X.env).map (·.2) = [assign tg X.env] := by rfl) : PS X (.Assign [tg] e pos) (tS X.K c (sAsg f t)) := (ps_asg he hg hs hw h1).imp fun D σ H ⟨tv, env, td, a, ok⟩ =>
  ⟨tv, env, td, a, (ok.bnd σ).mono fun d e1 ok1 H1 v a1 => ⟨tv, e1, td, d, a1, (ok1.bnd σ).mono fun _ e2 ok2 σ' H' _ a2 => ok2.nx a2⟩⟩
def sSet (i : Nat) (f : M D) : M Fl := bnd f fun d env => .ok .nx (env.set i d)
theorem s_set (i : Nat) {x : Str} {pos' : Pos} (hN : X.N.Nodup) (hi : X.N[i]? = some x) (hx : Loc X.env.scope x) (hm : c.msk.getD i false = false) (he : PE X e (tM X.K c f)) (hs : swapsWith e (some (.Name x pos')) pos.line X.env = pure false := by rfl)
    (hf : X.fn x = true ∨ X.env.scope.names.lookup x = some .local := by first | exact .inl rfl | exact .inr rfl | assumption) : PS X (.Assign [.Name x pos'] e pos) (tS X.K c (sSet i f)) := (ps_set hN hi hx he hs hf).imp fun D σ H ⟨tv, env, td, a, ok⟩ =>
  ⟨tv, env, td, a, (ok.bnd σ).mono fun d e1 ok1 H1 v a1 => ok1 _ H1 (a1.store hm)⟩
/-! loops -/
def IsIt (K : PySem.W.Frag) (c : Cn) (J : It) (tv : List V) (td : List D) (items : List D) : Prop :=
  (∀ i d σ H env us es, us.length = es.length → items[i]? = some d → A K c σ H (us ++ tv) env (es ++ td) → J.go i H ∧ ∀ x H', J.yld i H x H' → A K c σ H' (x :: (us ++ tv)) env (d :: (es ++ td))) ∧ ∀ σ H env, A K c σ H tv env td → J.stop items.length H
def tI (K : PySem.W.Frag) (c : Cn) (m : M (List D)) : TI := fun σ H R => ∃ tv env td, A K c σ H tv env td ∧ Ok K c σ tv td (m env) fun items e => ∀ J H' vs ds, vs.length = ds.length → IsIt K c J (vs ++ tv) (ds ++ td) items → A K c σ H' (vs ++ tv) e (ds ++ td) → R J H'
def loopD (t : D → M Unit) (body : M Fl) : List D → M Fl
  | [] => ret .nx
  | d :: ds => bnd (t d) fun _ => bnd body fun fl => match fl with
    | .nx => loopD t body ds
    | .ct => loopD t body ds
    | .bk => ret .nx
    | .rt r => ret (.rt r)
def sFor (mi : M (List D)) (t : D → M Unit) (body : M Fl) : M Fl := bnd mi fun items => loopD t body items
theorem s_for {sl : List Nat} {tg iter : Expr} {mi : M (List D)} {t : D → M Unit} (hp : PassesOwn (model X.prog X.w) X.A X.env X.xe) (hc : X.calm = true) (hi : PI X tg iter (tI X.K c mi)) (hg : PG X tg (tG X.K c sl t)) (hb : PSs X sts (tS X.K c s1))
    (hs : ∀ x, foldedSetIterable iter X.env x = pure x := by intro _; rfl) : PS X (.For tg iter sts [] pos) (tS X.K c (sFor mi t s1)) := (ps_for hp hc hi hg hb hs).imp fun D σ H ⟨tv, env, td, a, ok⟩ =>
  ⟨tv, env, td, a, (ok.bnd σ).mono fun items e1 ok1 J H1 vs ds hl hJ a1 => by
    refine ⟨fun i m σ H => m = items.length - i ∧ i ≤ items.length ∧ ∃ env, A X.K c σ H (vs ++ tv) env (ds ++ td) ∧ OkS X.K c tv td D (loopD t s1 (items.drop i) env), ⟨_, rfl, Nat.zero_le _, e1, a1, by simpa using ok1⟩, ?_⟩
    rintro i m σ2 H2 ⟨rfl, hi, env2, a2, ok2⟩
    by_cases hlt : i < items.length
    · refine .inr ?_
      have hd : items.drop i = items[i] :: items.drop (i + 1) := List.drop_eq_getElem_cons hlt
      rw [hd] at ok2
      obtain ⟨hgo, hy⟩ := hJ.1 i items[i] σ2 H2 env2 [] [] rfl (List.getElem?_eq_getElem hlt) a2
      refine ⟨hgo, fun σ' H' => ∃ env, A X.K c σ' H' (vs ++ tv) env (ds ++ td) ∧ OkS X.K c tv td D (loopD t s1 (items.drop (i + 1)) env), fun σ' H' ⟨e3, a3, ok3⟩ => ⟨_, by omega, rfl, hlt, e3, a3, ok3⟩, fun x H' y => ?_⟩
      refine ⟨vs ++ tv, env2, ds ++ td, items[i], hy x H' y, ((show OkS X.K c tv td D (bnd (t items[i]) _ env2) from ok2).bnd σ2).over hl |>.mono fun _ e3 ok3 σ3 H3 _ a3 => ⟨vs ++ tv, e3, ds ++ td, a3, ?_⟩⟩
      unfold bnd at ok3
      cases q : s1 e3 with
      | bad => rw [q] at ok3; exact ok3.elim
      | ex x fs e => rw [q] at ok3; exact fun σ H cls dd z => ok3 σ H cls dd (z.drop hl)
      | ok fl e4 =>
        rw [q] at ok3
        cases fl with
        | nx => exact fun σ4 H4 a4 => ⟨e4, a4, ok3⟩
        | ct => exact fun σ4 H4 a4 => ⟨e4, a4, ok3⟩
        | bk => exact fun σ4 H4 a4 => ok3 σ4 H4 (a4.drop hl)
        | rt r => exact fun σ4 H4 v a4 => ok3 σ4 H4 v (a4.dropMid hl)
    · have hi' : i = items.length := by omega
      subst hi'
      refine .inl ⟨hJ.2 σ2 H2 env2 a2, ?_⟩
      rw [List.drop_length] at ok2
      exact ok2 σ2 H2 (a2.drop hl)⟩
def whileN (p : M Bool) (body : M Fl) : Nat → M Fl
  | 0 => fun _ => .bad
  | n + 1 => bnd p fun b => if b then bnd body fun fl => match fl with
    | .nx => whileN p body n
    | .ct => whileN p body n
    | .bk => ret .nx
    | .rt r => ret (.rt r)
    else ret .nx
theorem s_while (n : Nat) {cc : Expr} (hp : PassesOwn (model X.prog X.w) X.A X.env X.xe) (hc : PT X cc (tT X.K c p)) (hb : PSs X sts (tS X.K c s1)) : PS X (.While cc sts [] pos) (tS X.K c (whileN p s1 n)) := (ps_while hp hc hb).imp fun D σ H ⟨tv, env, td, a, ok⟩ => by
  refine ⟨fun m σ H => ∃ env, A X.K c σ H tv env td ∧ OkS X.K c tv td D (whileN p s1 m env), ⟨n, env, a, ok⟩, ?_⟩
  rintro m σ2 H2 ⟨env2, a2, ok2⟩
  cases m with
  | zero => exact ok2.elim
  | succ m =>
    refine ⟨tv, env2, td, a2, ((show OkS X.K c tv td D (bnd p _ env2) from ok2).bnd σ2).mono fun b e3 ok3 H3 a3 => ?_⟩
    cases b with
    | false => exact ok3.nx a3
    | true =>
      refine ⟨fun σ' H' => ∃ env, A X.K c σ' H' tv env td ∧ OkS X.K c tv td D (whileN p s1 m env), fun σ' H' q => ⟨m, Nat.lt_succ_self m, q⟩, tv, e3, td, a3, ?_⟩
      have ok4 : OkS X.K c tv td D (bnd s1 (fun fl => match fl with
        | .nx => whileN p s1 m
        | .ct => whileN p s1 m
        | .bk => ret .nx
        | .rt r => ret (.rt r)) e3) := ok3
      unfold bnd at ok4
      cases q : s1 e3 with
      | bad => rw [q] at ok4; exact ok4.elim
      | ex x fs e => rw [q] at ok4; exact ok4
      | ok fl e4 =>
        rw [q] at ok4
        cases fl with
        | nx => exact fun σ4 H4 a4 => ⟨e4, a4, ok4⟩
        | ct => exact fun σ4 H4 a4 => ⟨e4, a4, ok4⟩
        | bk => exact fun σ4 H4 a4 => ok4 σ4 H4 a4
        | rt r => exact fun σ4 H4 v a4 => ok4 σ4 H4 v a4
/-! what is walked -/
theorem _root_.L2.PI.imp {X : Cx} {tg e : Expr} {t t' : TI} (h : PI X tg e t) (k : ∀ σ H Q, t' σ H Q → t σ H Q) : PI X tg e t' := ⟨fun pins s σ H Q I q => h.run pins s σ H Q I (k σ H Q q)⟩
theorem _root_.L2.PI.or {X : Cx} {tg e : Expr} {t t' : TI} (h : PI X tg e t) (h' : PI X tg e t') : PI X tg e (fun σ H Q => t σ H Q ∨ t' σ H Q) := ⟨fun pins s σ H R I q => q.elim (h.run pins s σ H R I) (h'.run pins s σ H R I)⟩
def chars (z : Str) : List D := z.cps.toList.map fun ch => .str ⟨#[ch]⟩
def itemsOf : D → Option (List D)
  | .lst l => some l
  | .tup l => some l
  | .str z => some (chars z)
  | _ => none
def iV (f : M D) : M (List D) := bnd (eFz f) fun d => lft (itemsOf d)
theorem RepL.get2 {K : PySem.W.Frag} {cl : ClT} {R H : Hp} : ∀ {ds : List D} {vs : List V} {i : Nat} {d : D} {v : V}, RepL K cl R H [] vs ds → ds[i]? = some d → vs[i]? = some v → Rep K cl R H [] v d
  | [], _, _, _, _, h, e, _ => by simp at e
  | d0 :: ds, _, 0, d, v, h, e, e2 => by
    obtain ⟨f, g, x, xs, e0, rfl, h1, h2⟩ := RepL.cons_iff.mp h
    have : f = [] := (List.append_eq_nil_iff.mp e0.symm).1
    subst this
    have h3 : d0 = d := by simpa using e
    have h4 : x = v := by simpa using e2
    subst h3; subst h4
    exact h1
  | d0 :: ds, _, i + 1, d, v, h, e, e2 => by
    obtain ⟨f, g, x, xs, e0, rfl, h1, h2⟩ := RepL.cons_iff.mp h
    have : g = [] := (List.append_eq_nil_iff.mp e0.symm).2
    subst this
    exact RepL.get2 (i := i) h2 (by simpa using e) (by simpa using e2)
/-- an item of a shared list under way goes under way too -/
theorem A.itemLU {K : PySem.W.Frag} {σ : Sl} {H : Hp} {us tv : List V} {env es td : List D} {pp : Addr} {l : List D} (hl : us.length = es.length) (a : A K c σ H (us ++ .ref pp :: tv) env (es ++ .lst l :: td)) : ∃ vs, SqL K H pp vs ∧ vs.length = l.length ∧ ∀ (i : Nat) (d : D) (v : V), l[i]? = some d → vs[i]? = some v → A K c σ H (v :: (us ++ .ref pp :: tv)) env (d :: (es ++ .lst l :: td)) := by
  obtain ⟨R, fs, ft, S⟩ := a
  obtain ⟨f0, g0, rfl, h0, h00⟩ := S.temps.split hl
  obtain ⟨f, g, rfl, h1, h2⟩ := h00.inv
  have h1' := h1
  simp only [Rep] at h1
  obtain ⟨rfl, p', vs, e, h3, h4⟩ := h1
  cases e
  exact ⟨vs, S.same.seq h3, h4.length, fun i d v e1 e2 => ⟨R, fs, [] ++ (f0 ++ ([] ++ g)), S.perm S.slots (RepL.cons (f := []) (RepL.get2 h4 e1 e2) S.temps) (.refl _) fun _ _ => rfl⟩⟩
theorem A.itemL {K : PySem.W.Frag} {σ : Sl} {H : Hp} {tv : List V} {env td : List D} {pp : Addr} {l : List D} (a : A K c σ H (.ref pp :: tv) env (.lst l :: td)) : ∃ vs, SqL K H pp vs ∧ vs.length = l.length ∧ ∀ (i : Nat) (d : D) (v : V), l[i]? = some d → vs[i]? = some v → A K c σ H (v :: .ref pp :: tv) env (d :: .lst l :: td) := A.itemLU (us := []) (es := []) rfl a
theorem A.itemTU {K : PySem.W.Frag} {σ : Sl} {H : Hp} {us tv : List V} {env es td : List D} {pp : Addr} {l : List D} (hl : us.length = es.length) (a : A K c σ H (us ++ .ref pp :: tv) env (es ++ .tup l :: td)) : ∃ vs, SqT K H pp vs ∧ vs.length = l.length ∧ ∀ (i : Nat) (d : D) (v : V), l[i]? = some d → vs[i]? = some v → A K c σ H (v :: (us ++ .ref pp :: tv)) env (d :: (es ++ .tup l :: td)) := by
  obtain ⟨R, fs, ft, S⟩ := a
  obtain ⟨f0, g0, rfl, h0, h00⟩ := S.temps.split hl
  obtain ⟨f, g, rfl, h1, h2⟩ := h00.inv
  have h1' := h1
  simp only [Rep] at h1
  obtain ⟨rfl, p', vs, e, h3, h4⟩ := h1
  cases e
  exact ⟨vs, SqT.mono h3 S.same, h4.length, fun i d v e1 e2 => ⟨R, fs, [] ++ (f0 ++ ([] ++ g)), S.perm S.slots (RepL.cons (f := []) (RepL.get2 h4 e1 e2) S.temps) (.refl _) fun _ _ => rfl⟩⟩
theorem A.itemT {K : PySem.W.Frag} {σ : Sl} {H : Hp} {tv : List V} {env td : List D} {pp : Addr} {l : List D} (a : A K c σ H (.ref pp :: tv) env (.tup l :: td)) : ∃ vs, SqT K H pp vs ∧ vs.length = l.length ∧ ∀ (i : Nat) (d : D) (v : V), l[i]? = some d → vs[i]? = some v → A K c σ H (v :: .ref pp :: tv) env (d :: .tup l :: td) := A.itemTU (us := []) (es := []) rfl a
theorem A.refL {K : PySem.W.Frag} {σ : Sl} {H : Hp} {tv : List V} {env td : List D} {v : V} {l : List D} (a : A K c σ H (v :: tv) env (.lst l :: td)) : ∃ pp, v = .ref pp := by
  obtain ⟨R, f, h, _⟩ := a.temp
  exact h.isR rfl
theorem A.refT {K : PySem.W.Frag} {σ : Sl} {H : Hp} {tv : List V} {env td : List D} {v : V} {l : List D} (a : A K c σ H (v :: tv) env (.tup l :: td)) : ∃ pp, v = .ref pp := by
  obtain ⟨R, f, h, _⟩ := a.temp
  exact h.isR rfl
theorem isIt_list {K : PySem.W.Frag} {tv : List V} {td : List D} {pp : Addr} {l : List D} : IsIt K c (Itl K pp) (.ref pp :: tv) (.lst l :: td) l := by
  refine ⟨fun i d σ H env us es hl e a => ?_, fun σ H env a => ?_⟩
  · obtain ⟨vs, h1, h2, h3⟩ := a.itemLU hl
    have hi : i < vs.length := by rw [h2]; exact (List.getElem?_eq_some_iff.mp e).1
    refine ⟨⟨vs, vs[i], h1, List.getElem?_eq_getElem hi⟩, fun x H' y => ?_⟩
    obtain ⟨rfl, y⟩ := y
    exact h3 i d x e (y vs h1)
  · obtain ⟨vs, h1, h2, h3⟩ := a.itemL
    exact ⟨vs, h1, by omega⟩
theorem isIt_tup {K : PySem.W.Frag} {tv : List V} {td : List D} {pp : Addr} {l : List D} : IsIt K c (Itt K pp) (.ref pp :: tv) (.tup l :: td) l := by
  refine ⟨fun i d σ H env us es hl e a => ?_, fun σ H env a => ?_⟩
  · obtain ⟨vs, h1, h2, h3⟩ := a.itemTU hl
    have hi : i < vs.length := by rw [h2]; exact (List.getElem?_eq_some_iff.mp e).1
    refine ⟨⟨vs, vs[i], h1, List.getElem?_eq_getElem hi⟩, fun x H' y => ?_⟩
    obtain ⟨rfl, y⟩ := y
    exact h3 i d x e (y vs h1)
  · obtain ⟨vs, h1, h2, h3⟩ := a.itemT
    exact ⟨vs, h1, by omega⟩
theorem isIt_str {K : PySem.W.Frag} {tv : List V} {td : List D} {z : Str} : IsIt K c (Its z) tv td (chars z) := by
  refine ⟨fun i d σ H env us es hl e a => ?_, fun σ H env a => ?_⟩
  · unfold chars at e
    rw [List.getElem?_map] at e
    cases q : z.cps.toList[i]? with
    | none => rw [q] at e; cases e
    | some ch =>
      rw [q] at e
      have e' : D.str ⟨#[ch]⟩ = d := by simpa using e
      subst e'
      have q' : z.cps[i]? = some ch := by simpa using q
      refine ⟨(Array.getElem?_eq_some_iff.mp q').1, fun x H' y => ?_⟩
      obtain ⟨rfl, c', e1, rfl⟩ := y
      rw [q'] at e1
      cases e1
      exact a.push rfl
  · show z.cps.size ≤ (chars z).length
    unfold chars
    simp
theorem i_val {tg : Expr} (he : PE X e (tM X.K c (eFz f))) : PI X tg e (tI X.K c (iV f)) := ((pi_list he).or ((pi_tup he).or (pi_str he))).imp fun σ H R ⟨tv, env, td, a, ok⟩ => by
  unfold iV bnd at ok
  cases q : eFz f env with
  | bad => rw [q] at ok; exact ok.elim
  | ex x fs e1 => rw [q] at ok; exact .inl ⟨tv, env, td, a, by rw [q]; exact ok⟩
  | ok d e1 =>
    rw [q] at ok
    cases d <;> try (exact ok.elim)
    · refine .inr (.inr ⟨tv, env, td, a, ?_⟩)
      rw [q]
      intro H' v a1
      have := a1.sv rfl
      subst this
      exact ⟨_, rfl, ok _ _ [_] [_] rfl isIt_str a1⟩
    · refine .inr (.inl ⟨tv, env, td, a, ?_⟩)
      rw [q]
      intro H' v a1
      obtain ⟨pp, rfl⟩ := a1.refT
      obtain ⟨vs, h1, _⟩ := a1.itemT
      exact ⟨pp, rfl, ⟨vs, h1⟩, ok _ _ [_] [_] rfl isIt_tup a1⟩
    · refine .inl ⟨tv, env, td, a, ?_⟩
      rw [q]
      intro H' v a1
      obtain ⟨pp, rfl⟩ := a1.refL
      obtain ⟨vs, h1, _⟩ := a1.itemL
      exact ⟨pp, rfl, ⟨vs, h1⟩, ok _ _ [_] [_] rfl isIt_list a1⟩
def rngD (i j : Int) : List D := (List.range (j - i).toNat).map fun k => .int (i + (k : Nat))
theorem isIt_rng {K : PySem.W.Frag} {tv : List V} {td : List D} {i j : Int} : IsIt K c (Itr i (j - i).toNat) tv td (rngD i j) := by
  refine ⟨fun k d σ H env us es hl e a => ?_, fun σ H env a => ?_⟩
  · unfold rngD at e
    rw [List.getElem?_map] at e
    by_cases hk : k < (j - i).toNat
    · rw [List.getElem?_range hk] at e
      have e' : D.int (i + (k : Nat)) = d := by simpa using e
      subst e'
      refine ⟨hk, fun x H' y => ?_⟩
      obtain ⟨rfl, rfl⟩ := y
      exact a.push rfl
    · rw [List.getElem?_eq_none (by simpa using hk)] at e
      cases e
  · show (j - i).toNat ≤ (rngD i j).length
    unfold rngD
    simp
def rng1 : List D → Option (List D)
  | [.int j] => if -4611686018427387904 ≤ j ∧ j < 4611686018427387904 then some (rngD 0 j) else none
  | _ => none
def rng2 : List D → Option (List D)
  | [.int i, .int j] => if (-4611686018427387904 ≤ i ∧ i < 4611686018427387904) ∧ -4611686018427387904 ≤ j ∧ j < 4611686018427387904 then some (rngD i j) else none
  | _ => none
def iRg1 (m : M (List D)) : M (List D) := bnd m fun ds => lft (rng1 ds)
def iRg2 (m : M (List D)) : M (List D) := bnd m fun ds => lft (rng2 ds)
theorem i_range1 {tg : Expr} {p : Pos} (hg : Gl X "range") (hm : X.mg "range" = none) (ha : PA X [a] (tA X.K c tk m)) (hs : starEach [a] X.env = [(false, eval a X.env)] := by rfl) : PI X tg (.Call (.Name "range" p) [a] [] pos) (tI X.K c (iRg1 m)) :=
  (pi_range1 hg hm ha hs).imp fun σ H R ⟨tv, env, td, a, ok⟩ => ⟨tv, env, td, a, ok.bnd.mono fun ds e1 ok1 H1 vs hl hk a1 => by
    obtain ⟨items, e, q⟩ := ok1.lft
    unfold rng1 at e
    split at e
    · rename_i j
      split at e
      · rename_i hj
        cases e
        obtain ⟨v, rfl⟩ : ∃ v, vs = [v] := by
          match vs, hl with
          | [v], _ => exact ⟨v, rfl⟩
        have := A.sv (v := v) (tv := tv) a1 rfl
        subst this
        refine ⟨j, rfl, by omega, by omega, q (Itr 0 j.toNat) H1 [] [] rfl ?_ (A.pop a1)⟩
        have := isIt_rng (c := c) (K := X.K) (tv := tv) (td := td) (i := 0) (j := j)
        simpa using this
      · cases e
    · cases e⟩
theorem i_range2 {tg : Expr} {p : Pos} (hg : Gl X "range") (hm : X.mg "range" = none) (ha : PA X [a, b] (tA X.K c tk m)) (hs : starEach [a, b] X.env = [(false, eval a X.env), (false, eval b X.env)] := by rfl) (hs2 : starEach [b] X.env = [(false, eval b X.env)] := by rfl) :
    PI X tg (.Call (.Name "range" p) [a, b] [] pos) (tI X.K c (iRg2 m)) :=
  (pi_range2 hg hm ha hs hs2).imp fun σ H R ⟨tv, env, td, a, ok⟩ => ⟨tv, env, td, a, ok.bnd.mono fun ds e1 ok1 H1 vs hl hk a1 => by
    obtain ⟨items, e, q⟩ := ok1.lft
    unfold rng2 at e
    split at e
    · rename_i i j
      split at e
      · rename_i hj
        cases e
        obtain ⟨v, w, rfl⟩ : ∃ v w, vs = [v, w] := by
          match vs, hl with
          | [v, w], _ => exact ⟨v, w, rfl⟩
        have h1 := A.sv (v := v) (tv := w :: tv) a1 rfl
        have h2 := A.sv (v := w) (tv := tv) (A.pop a1) rfl
        subst h1; subst h2
        exact ⟨i, j, rfl, ⟨by omega, by omega, by omega, by omega⟩, q (Itr i (j - i).toNat) H1 [] [] rfl isIt_rng (A.pop (A.pop a1))⟩
      · cases e
    · cases e⟩
end
end Pm

namespace Pm
open PySem PySem.Spec PyProof.Rows L2
/-! ### defs and calls -/
/-- the state of a call: no slots, the arguments' things -/
def cE (cl : ClT) (R H : Hp) (fp : List Addr) : Cn := ⟨cl, [], ⟨R, H, fp, []⟩, fun _ _ _ _ => False⟩
/-- THE PROMISE: called with what represents ds, it does what F says; mk: the parameters that are handed back -/
def spM (K : PySem.W.Frag) (cl : ClT) (mk : List Bool) (n : Nat) (F : List D → Out D) : Sp := fun vs H Q E => ∃ R fp ds, RepL K cl R H fp vs ds ∧ Same R H ∧ fp.Nodup ∧ (∀ a ∈ fp, R a = none ∧ ∃ o, H a = some o) ∧ ds.length = n ∧
  match F ds with
  | .ok r ps => ∀ H1 v, A K (cE cl R H fp) [] H1 (v :: pick mk vs) [] (r :: ps) → Q v H1
  | .ex x fs ps => ∀ H1 C v dd, cl.ad x = some C → (v = V.non ∧ dd = none ∨ ∃ a, v = V.ref a ∧ dd = some a) → A K (cE cl R H fp) [] H1 (v :: pick mk vs) [] (.xd x fs :: ps) → E (.ref C) dd H1
  | .bad => False
/-- a def's meaning by its body's; nl: how many further slots -/
def outM (mk : List Bool) (r : D) (env : List D) : Out D := if mk.length ≤ env.length then .ok r (pick mk env) else .bad
def defM (m : M Fl) (nl : Nat) (mk : List Bool) : List D → Out D := fun ds => match m (ds ++ List.replicate nl .un) with
  | .ok (.rt r) env => outM mk r env
  | .ok .nx env => outM mk .non env
  | .ok _ _ => .bad
  | .ex x fs env => if mk.length ≤ env.length then .ex x fs (pick mk env) else .bad
  | .bad => .bad
theorem repS_start {K : PySem.W.Frag} {cl : ClT} {R H : Hp} : ∀ {ds : List D} {fp : List Addr} {vs : List V} {k : Nat}, RepL K cl R H fp vs ds → RepS K cl R H fp (vs.map some ++ List.replicate k none) (ds ++ List.replicate k .un)
  | [], fp, vs, k, h => by
    obtain ⟨rfl, rfl⟩ := RepL.nil_iff.mp h
    induction k with
    | zero => exact ⟨rfl, rfl⟩
    | succ k ih => exact ⟨[], [], none, _, rfl, rfl, ⟨rfl, rfl⟩, ih⟩
  | d :: ds, fp, vs, k, h => by
    obtain ⟨f, g, x, xs, rfl, rfl, h1, h2⟩ := RepL.cons_iff.mp h
    exact ⟨f, g, some x, _, rfl, rfl, h1, repS_start h2⟩
theorem pick_take {α : Type} : ∀ {mk : List Bool} {xs ys : List α}, mk.length ≤ xs.length → pick mk (xs ++ ys) = pick mk xs
  | [], _, _, _ => by simp [pick]
  | b :: mk, [], _, h => by simp at h
  | true :: mk, x :: xs, ys, h => by simp only [List.cons_append, pick]; rw [pick_take (by simpa using h)]
  | false :: mk, x :: xs, ys, h => by simp only [List.cons_append, pick]; rw [pick_take (by simpa using h)]
section
variable {P : Program} {w : World} {K : PySem.W.Frag} {mg : Str → Option Value} {base : Heap}
/-- at the body's end: what is handed out -/
theorem A.leave {σ : Sl} {H : Hp} {vs : List V} {env : List D} {v : V} {r : D} {R0 H0 : Hp} {fp : List Addr} {cl : ClT} {mk : List Bool} {W : WX} {k : Nat}
    (a : A K ⟨cl, mk, ⟨R0, H0, fp, vs.map some ++ List.replicate k none⟩, W⟩ σ H [v] env [r]) (hm : mk.length ≤ vs.length) (hl2 : mk.length ≤ env.length) : A K (cE cl R0 H0 fp) [] H (v :: pick mk vs) [] (r :: pick mk env) := by
  obtain ⟨R, fs, ft, S⟩ := a
  have hlen := S.slots.length
  have hσ : ∀ i, mk.getD i false = true → σ[i]? = vs[i]?.map some := fun i hi => by
    have hi2 : i < mk.length := by
      by_cases h : i < mk.length
      · exact h
      · rw [List.getD_eq_getElem?_getD, List.getElem?_eq_none (by omega)] at hi; cases hi
    rw [S.fix i hi]
    show (vs.map some ++ List.replicate k none)[i]? = _
    rw [List.getElem?_append_left (by simp; omega), List.getElem?_map]
  obtain ⟨f, h1, h2, h3⟩ := RepS.pick S.slots hσ hm hl2
  obtain ⟨f0, g0, rfl, h0, hn⟩ := S.temps.inv
  obtain ⟨rfl, _⟩ := RepL.nil_iff.mp hn
  obtain ⟨n1, n2, n3⟩ := List.nodup_append.mp S.nd
  rw [List.append_nil] at n2 n3
  refine ⟨R, [], f0 ++ f, ⟨S.ev, ⟨rfl, rfl⟩, RepL.cons h0 h3, ?_, fun b hb => ?_, fun i hi => by cases i <;> cases hi⟩⟩
  · refine (show (f0 ++ f).Nodup from ?_)
    exact List.nodup_append.mpr ⟨n2, h2 n1, fun x hx y hy q => n3 y (h1 y hy) x hx q.symm⟩
  · have hb' : b ∈ fs ++ (f0 ++ []) := by
      rcases List.mem_append.mp (show b ∈ f0 ++ f from hb) with z | z
      · exact List.mem_append_right _ (by rw [List.append_nil]; exact z)
      · exact List.mem_append_left _ (h1 b z)
    exact S.own b hb'
/-- a def keeps the promise that its body's meaning tells -/
theorem fn_ok {x qual : Str} {st : Stmt} {f : Addr} {fd : FuncData} {N ps : List Str} {k n nl : Nat} {m : M Fl} {cl : ClT} {mk : List Bool} (F : Fun K x qual st f fd) (S : FnScope N ps (defScope st)) (hn : ps.length = n) (hN : N.length = n + nl) (hmk : mk.length ≤ n)
    (hbody : ∀ (cdv : Value) (A : Around) (outer : List Env) (s : Shared) (H : Hp) (E : XK) (e : Ent), Room k (A.deeper (envOfC qual (defScope st) s.heap.objs.size f cdv)) →
      PSs (cxOf (L2.CX P w) P w K mg base N qual (defScope st) f cdv A outer s H E) (defBody st) (tS K ⟨cl, mk, e, fun cls d _ H => E cls d H⟩ m)) :
    FnOk P w K mg base (L2.CX P w) (k + 1) f fd ps (spM K cl mk n (defM m nl mk)) := by
  refine F.okX S (fun vs H Q E h => ?_) (fun cdv A outer s H vs Q E hr h => ?_)
  · obtain ⟨R, fp, ds, h1, _, _, _, h2, _⟩ := h
    rw [h1.length, h2, hn]
  · obtain ⟨R, fp, ds, h1, h2, h3, h4, h5, h6⟩ := h
    have hl : vs.length = n := by rw [h1.length, h5]
    have hk : N.length - vs.length = nl := by omega
    refine ⟨_, hbody cdv A outer s H E ⟨R, H, fp, vs.map some ++ List.replicate nl none⟩ hr, ?_⟩
    refine ⟨[], ds ++ List.replicate nl .un, [], ⟨R, fp, [], Ev.refl h2, ?_, RepL.nil_iff.mpr ⟨rfl, rfl⟩, by simpa using h3, fun b hb => ?_, fun _ _ => ?_⟩, ?_⟩
    · unfold L2.start
      rw [hk]
      exact repS_start h1
    · have hb' : b ∈ fp := by simpa using hb
      exact ⟨(h4 b hb').1, (h4 b hb').2, .inl hb'⟩
    · unfold L2.start
      rw [hk]
    · unfold defM at h6
      cases q : m (ds ++ List.replicate nl .un) with
      | bad => rw [q] at h6; exact h6.elim
      | ex y fs env =>
        rw [q] at h6
        by_cases hm : mk.length ≤ env.length
        · simp only [hm, if_true] at h6
          intro σ' H' cls dd z
          obtain ⟨C, v, e1, rfl, e3, a⟩ := z
          exact h6 H' C v dd e1 e3 (a.leave (by omega) hm)
        · simp only [hm, if_false] at h6
      | ok fl env =>
        rw [q] at h6
        cases fl with
        | bk => exact h6.elim
        | ct => exact h6.elim
        | nx =>
          simp only [outM] at h6
          by_cases hm : mk.length ≤ env.length
          · simp only [hm, if_true] at h6
            exact fun σ' H' a => h6 H' _ ((a.push (d := .non) rfl).leave (by omega) hm)
          · simp only [hm, if_false] at h6
        | rt r =>
          simp only [outM] at h6
          by_cases hm : mk.length ≤ env.length
          · simp only [hm, if_true] at h6
            exact fun σ' H' v a => h6 H' v (a.leave (by omega) hm)
          · simp only [hm, if_false] at h6
end
/-! ### a call -/
def putB : List Nat → List D → List D → List D
  | i :: is, d :: ds, env => putB is ds (env.set i d)
  | _, _, env => env
def ids (tk : List (Option Nat)) : List Nat := tk.filterMap id
def eCall (F : List D → Out D) (is : List Nat) (m : M (List D)) : M D := bnd m fun ds env => match F ds with
  | .ok r ps => .ok r (putB is ps env)
  | .ex x fs ps => .ex x fs (putB is ps env)
  | .bad => .bad
section
variable {K : PySem.W.Frag} {c : Cn} {σ : Sl} {H : Hp} {tv vs : List V} {env td ds : List D} {v : V} {d : D}
theorem A.putB : ∀ {is : List Nat} {ws : List V} {ps : List D} {env : List D}, ws.length = ps.length → ws.length = is.length → (∀ (j i : Nat), is[j]? = some i → ∃ w, ws[j]? = some w ∧ σ[i]? = some (some w)) → A K c σ H (v :: (ws ++ tv)) env (d :: (ps ++ td)) → A K c σ H (v :: tv) (Pm.putB is ps env) (d :: td)
  | [], [], [], env, _, _, _, a => a
  | [], w :: ws, _, _, _, h, _, _ => by simp at h
  | i :: is, [], _, _, _, h, _, _ => by simp at h
  | i :: is, w :: ws, [], _, h, _, _, _ => by simp at h
  | [], [], d :: ps, _, h, _, _, _ => by simp at h
  | i :: is, w :: ws, p :: ps, env, h1, h2, k, a => by
    obtain ⟨w', e1, e2⟩ := k 0 i rfl
    have : w = w' := by simpa using e1
    subst this
    have a1 : A K c σ H (w :: (v :: (ws ++ tv))) env (p :: (d :: (ps ++ td))) := A.rot (vs := [v]) (ds := [d]) a rfl
    exact A.putB (is := is) (by simpa using h1) (by simpa using h2) (fun j i e => by simpa using k (j + 1) i (by simpa using e)) (a1.put e2)
theorem pick_tk : ∀ {tk : List (Option Nat)} {vs : List V}, TK σ tk vs → (pick (tk.map Option.isSome) vs).length = (ids tk).length ∧ ∀ (j i : Nat), (ids tk)[j]? = some i → ∃ w, (pick (tk.map Option.isSome) vs)[j]? = some w ∧ σ[i]? = some (some w)
  | [], vs, _ => ⟨by simp [pick, ids], fun j i e => by simp [ids] at e⟩
  | o :: tk, [], h => by have := h.1; simp at this
  | none :: tk, v :: vs, h => by
    have ih := pick_tk (tk := tk) (vs := vs) ⟨by simpa using h.1, fun k i e => by simpa using h.2 (k + 1) i (by simpa using e)⟩
    have e1 : pick ((none :: tk).map Option.isSome) (v :: vs) = pick (tk.map Option.isSome) vs := rfl
    have e2 : ids (none :: tk) = ids tk := rfl
    rw [e1, e2]
    exact ih
  | some n :: tk, v :: vs, h => by
    have ih := pick_tk (tk := tk) (vs := vs) ⟨by simpa using h.1, fun k i e => by simpa using h.2 (k + 1) i (by simpa using e)⟩
    have e1 : pick ((some n :: tk).map Option.isSome) (v :: vs) = v :: pick (tk.map Option.isSome) vs := rfl
    have e2 : ids (some n :: tk) = n :: ids tk := rfl
    rw [e1, e2]
    refine ⟨by simp [ih.1], fun j i e => ?_⟩
    cases j with
    | zero =>
      have : n = i := by simpa using e
      subst this
      obtain ⟨w, e3, e4⟩ := h.2 0 n rfl
      exact ⟨w, by simpa using e3, e4⟩
    | succ j => simpa using ih.2 j i (by simpa using e)
/-- behind a call -/
theorem A.called {R H1 : Hp} {fs f g : List Addr} {ws : List V} {ps : List D} (S : SI K c.cl c.msk c.E R H fs (f ++ g) σ env (vs ++ tv) (ds ++ td)) (hg : RepL K c.cl R H g tv td)
    (b : A K (cE c.cl R H f) [] H1 ws [] ps) : A K c σ H1 (ws ++ tv) env (ps ++ td) := by
  obtain ⟨R1, fs1, ft1, B⟩ := b
  obtain ⟨rfl, _⟩ : fs1 = [] ∧ ([] : Sl) = [] := B.slots
  obtain ⟨n1, n2, n3⟩ := List.nodup_append.mp S.nd
  obtain ⟨n4, n5, n6⟩ := List.nodup_append.mp n2
  refine ⟨R1, fs, ft1 ++ g, SI.goT S hg B.ev (fun a ha => ?_) B.temps (by simpa using B.nd) fun a ha => ?_⟩
  · have hm : a ∈ fs ++ (f ++ g) := by
      rcases List.mem_append.mp ha with y | y
      · exact List.mem_append_left _ y
      · exact List.mem_append_right _ (List.mem_append_right _ y)
    cases q : R1 a with
    | none => rfl
    | some o =>
      exfalso
      rcases B.ev.n a o q with z | z | z
      · have e := (S.own a hm).1
        have z' : R a = some o := z
        rw [e] at z'; cases z'
      · obtain ⟨o', e⟩ := (S.own a hm).2.1
        have z' : H a = none := z
        rw [e] at z'; cases z'
      · have z' : a ∈ f := z
        rcases List.mem_append.mp ha with y | y
        · exact n3 a y a (List.mem_append_left _ z') rfl
        · exact n6 a z' a y rfl
  · exact B.own a (by simpa using ha)
end
section
variable {X : Cx} {c : Cn} {e o : Expr} {es : List Expr} {pos : Pos} {tk : List (Option Nat)} {m : M (List D)} {k n : Nat} {f : Addr} {fd : FuncData} {ps : List Str} {F : List D → Out D} {x : Str} {p : Pos}
theorem call_sp {σ : Sl} {H : Hp} {tv vs : List V} {env td ds : List D} {Q : VK} (a : A X.K c σ H (vs ++ tv) env (ds ++ td)) (hl : vs.length = ds.length) (hk : TK σ tk vs) (hlk : tk.length = n)
    (ok : Ok X.K c σ tv td (match F ds with
      | .ok r ps => .ok r (putB (ids tk) ps env)
      | .ex x fs ps => .ex x fs (putB (ids tk) ps env)
      | .bad => .bad) fun d e => ∀ H' v, A X.K c σ H' (v :: tv) e (d :: td) → Q v H') : spM X.K c.cl (tk.map Option.isSome) n F vs H Q (WE c.W σ) := by
  obtain ⟨R, fs, ft, S⟩ := a
  obtain ⟨f, g, rfl, h1, h2⟩ := S.temps.split hl
  obtain ⟨n1, n2, n3⟩ := List.nodup_append.mp S.nd
  obtain ⟨n4, n5, n6⟩ := List.nodup_append.mp n2
  refine ⟨R, f, ds, h1, S.same, n4, fun b hb => ?_, by have := hk.1; omega, ?_⟩
  · obtain ⟨q1, q2, _⟩ := S.own b (List.mem_append_right _ (List.mem_append_left _ hb))
    exact ⟨q1, q2⟩
  · obtain ⟨hp1, hp2⟩ := pick_tk hk
    cases q : F ds with
    | bad => rw [q] at ok; exact ok.elim
    | ok r qs =>
      rw [q] at ok
      intro H1 v b
      have hq : (pick (tk.map Option.isSome) vs).length = qs.length := by have := b.same_len; simpa using this
      exact ok H1 v (A.putB hq hp1 hp2 (A.called S h2 b))
    | ex y gs qs =>
      rw [q] at ok
      intro H1 C v dd e1 e2 b
      have hq : (pick (tk.map Option.isSome) vs).length = qs.length := by have := b.same_len; simpa using this
      exact ok H1 (.ref C) dd ⟨C, v, e1, rfl, e2, A.putB hq hp1 hp2 (A.called S h2 b)⟩
/-- f(e, ..) -/
theorem m_call (Fn : FnOk X.prog X.w X.K X.mg X.base (L2.CX X.prog X.w) k f fd ps (spM X.K c.cl (tk.map Option.isSome) n F)) (hr : Room k X.A) (tkW : Takes X c.W) (hg : Gl X x) (hm : X.mg x = some (.ref f)) (hkp : PySem.W.keepIn X.K (.ref f) = true) (hb : Binds X.K fd ps [])
    (ha : PA X (e :: es) (tA X.K c tk m)) (hlk : tk.length = n) (hdb : (x == ("__debug__" : Str)) = false := by decide) (he : starEach (e :: es) X.env = (false, eval e X.env) :: starEach es X.env := by rfl) (hpl : (backTo pos (starEach es X.env)).any (·.1) = false := by rfl) :
    PE X (.Call (.Name x p) (e :: es) [] pos) (tM X.K c (eCall F (ids tk) m)) := (pe_callS Fn hr hg hm hkp hb (fun σ => passAt tkW σ) ha hdb he hpl).imp fun σ H Q ⟨tv, env, td, a, ok⟩ =>
  ⟨tv, env, td, a, ok.bnd.mono fun ds e1 ok1 H1 vs hl hk a1 => call_sp a1 hl hk hlk ok1⟩
end
end Pm

namespace Pm
open PySem PySem.Spec PyProof.Rows L2
/-! ### built-ins: the arguments stay as they are -/
def CallM (K : PySem.W.Frag) (r : List V → Hp → VK → Prop) (op : List D → Option D) : Prop := ∀ {c : Cn} {σ : Sl} {H : Hp} {tv vs : List V} {env td ds : List D} {d : D} {Q : VK}, vs.length = ds.length →
  A K c σ H (vs ++ tv) env (ds ++ td) → op ds = some d → (∀ H' v, A K c σ H' (v :: (vs ++ tv)) env (d :: (ds ++ td)) → Q v H') → r vs H Q
theorem CallM.or {K : PySem.W.Frag} {r r' : List V → Hp → VK → Prop} {op op' : List D → Option D} (h : CallM K r op) (h' : CallM K r' op') : CallM K (fun x H Q => r x H Q ∨ r' x H Q) (fun a => orO (op a) (op' a)) := by
  intro c σ H tv vs env td ds d Q hl a e q
  cases z : op ds with
  | some d' =>
    simp only [z, orO] at e
    cases e
    exact .inl (h hl a z q)
  | none =>
    simp only [z, orO] at e
    exact .inr (h' hl a e q)
def eB (op : List D → Option D) (tk : List (Option Nat)) (m : M (List D)) : M D := bnd m fun ds env => match op ds with
  | some d => .ok d (putB (ids tk) (pick (tk.map Option.isSome) ds) env)
  | none => .bad
section
variable {K : PySem.W.Frag} {c : Cn} {σ : Sl} {H : Hp} {tv vs : List V} {env td ds : List D} {v : V} {d : D}
/-- of several under way the chosen stay -/
theorem RepL.pickL {cl : ClT} {R H : Hp} : ∀ {mk : List Bool} {ds : List D} {f : List Addr} {vs : List V}, RepL K cl R H f vs ds → ∃ f1 f2, RepL K cl R H f1 (pick mk vs) (pick mk ds) ∧ (f1 ++ f2).Perm f
  | [], ds, f, vs, _ => ⟨[], f, by simp only [pick, RepL]; exact ⟨trivial, trivial⟩, .refl _⟩
  | b :: mk, [], f, vs, h => by
    obtain ⟨rfl, rfl⟩ := RepL.nil_iff.mp h
    refine ⟨[], [], ?_, .refl _⟩
    cases b <;> simp only [pick, RepL] <;> exact ⟨trivial, trivial⟩
  | b :: mk, d :: ds, f, vs, h => by
    obtain ⟨f0, g0, x, xs, rfl, rfl, h1, h2⟩ := RepL.cons_iff.mp h
    obtain ⟨f1, f2, h3, p⟩ := RepL.pickL (mk := mk) h2
    cases b with
    | true =>
      exact ⟨f0 ++ f1, f2, RepL.cons h1 h3, by rw [List.append_assoc]; exact List.Perm.append_left _ p⟩
    | false =>
      exact ⟨f1, f0 ++ f2, h3, (perm3 f1 f0 f2).trans (List.Perm.append_left _ p)⟩
theorem A.pickA {mk : List Bool} (a : A K c σ H (v :: (vs ++ tv)) env (d :: (ds ++ td))) (hl : vs.length = ds.length) : A K c σ H (v :: (pick mk vs ++ tv)) env (d :: (pick mk ds ++ td)) := by
  obtain ⟨R, fs, ft, S⟩ := a
  obtain ⟨f, g, rfl, h1, h2⟩ := S.temps.inv
  obtain ⟨f2, g2, rfl, h3, h4⟩ := h2.split hl
  obtain ⟨f3, f4, h5, p⟩ := RepL.pickL (mk := mk) h3
  refine ⟨R, fs, f ++ (f3 ++ g2), S.sub S.slots (RepL.cons h1 (h5.append h4)) ⟨f4, ?_⟩ fun _ _ => rfl⟩
  simp only [List.append_assoc]
  refine List.Perm.append_left _ (List.Perm.append_left _ ?_)
  exact (List.Perm.append_left f3 List.perm_append_comm).trans (by rw [← List.append_assoc]; exact p.append_right g2)
theorem pick_len {α β : Type} : ∀ {mk : List Bool} {xs : List α} {ys : List β}, xs.length = ys.length → (pick mk xs).length = (pick mk ys).length
  | [], _, _, _ => by simp [pick]
  | b :: mk, [], [], _ => by cases b <;> simp [pick]
  | b :: mk, [], y :: ys, h => by simp at h
  | b :: mk, x :: xs, [], h => by simp at h
  | true :: mk, x :: xs, y :: ys, h => by simp only [pick, List.length_cons]; rw [pick_len (by simpa using h)]
  | false :: mk, x :: xs, y :: ys, h => by simp only [pick]; exact pick_len (by simpa using h)
/-- behind a built-in: what was taken is put back -/
theorem A.back {tk : List (Option Nat)} (a : A K c σ H (v :: (vs ++ tv)) env (d :: (ds ++ td))) (hl : vs.length = ds.length) (hk : TK σ tk vs) : A K c σ H (v :: tv) (Pm.putB (ids tk) (pick (tk.map Option.isSome) ds) env) (d :: td) := by
  obtain ⟨h1, h2⟩ := pick_tk hk
  exact A.putB (pick_len hl) h1 h2 (a.pickA hl)
end
section
variable {X : Cx} {c : Cn} {a b e o : Expr} {es : List Expr} {f g : M D} {pos : Pos} {tk : List (Option Nat)} {m : M (List D)} {op : List D → Option D} {r : List V → Hp → VK → Prop} {x : Str} {p : Pos} {id T : String}
theorem run_B (hm : CallM X.K r op) {σ : Sl} {H : Hp} {Q : VK} (h : tM X.K c (eB op tk m) σ H Q) : tA X.K c tk m σ H fun vs H1 => r vs H1 Q := by
  obtain ⟨tv, env, td, a, ok⟩ := h
  refine ⟨tv, env, td, a, ok.bnd.mono fun ds e1 ok1 H1 vs hl hk a1 => ?_⟩
  cases q : op ds with
  | none => rw [q] at ok1; exact ok1.elim
  | some d =>
    rw [q] at ok1
    exact hm hl a1 q fun H' v a2 => ok1 H' v (a2.back hl hk)
theorem m_callB (hc : CallR X (.builtin id) r) (hm : CallM X.K r op) (hg : Gl X x) (hmg : X.mg x = none) (hv : bootBuiltins x = some (.builtin id)) (ha : PA X (e :: es) (tA X.K c tk m)) (hn : x ≠ "__name__" := by decide) (hdb : (x == ("__debug__" : Str)) = false := by decide)
    (he : starEach (e :: es) X.env = (false, eval e X.env) :: starEach es X.env := by rfl) (hpl : (backTo pos (starEach es X.env)).any (·.1) = false := by rfl) : PE X (.Call (.Name x p) (e :: es) [] pos) (tM X.K c (eB op tk m)) :=
  (pe_callB hc hg hmg hv ha hn hdb he hpl).imp fun _ _ _ h => run_B hm h
theorem m_callTy (hc : CallR X (.type T) r) (hm : CallM X.K r op) (hg : Gl X x) (hmg : X.mg x = none) (hv : bootBuiltins x = some (.type T)) (ha : PA X (e :: es) (tA X.K c tk m)) (hn : x ≠ "__name__" := by decide) (hdb : (x == ("__debug__" : Str)) = false := by decide)
    (he : starEach (e :: es) X.env = (false, eval e X.env) :: starEach es X.env := by rfl) (hpl : (backTo pos (starEach es X.env)).any (·.1) = false := by rfl) : PE X (.Call (.Name x p) (e :: es) [] pos) (tM X.K c (eB op tk m)) :=
  (pe_callTy hc hg hmg hv ha hn hdb he hpl).imp fun _ _ _ h => run_B hm h
end
/-! ints -/
def absB : List D → Option D
  | [.int i] => some (.int (if i < 0 then -i else i))
  | _ => none
def maxB : List D → Option D
  | [.int i, .int j] => some (.int (if j > i then j else i))
  | _ => none
def minB : List D → Option D
  | [.int i, .int j] => some (.int (if j < i then j else i))
  | _ => none
def intB : List D → Option D
  | [.int i] => some (.int i)
  | [.bl k] => some (.int (if k then 1 else 0))
  | _ => none
theorem vs1 {α : Type} {vs : List V} {d : α} (hl : vs.length = [d].length) : ∃ v, vs = [v] := by
  match vs, hl with
  | [v], _ => exact ⟨v, rfl⟩
theorem vs2 {α : Type} {vs : List V} {d e : α} (hl : vs.length = [d, e].length) : ∃ v w, vs = [v, w] := by
  match vs, hl with
  | [v, w], _ => exact ⟨v, w, rfl⟩
theorem vs3 {α : Type} {vs : List V} {d e g : α} (hl : vs.length = [d, e, g].length) : ∃ v w x, vs = [v, w, x] := by
  match vs, hl with
  | [v, w, x], _ => exact ⟨v, w, x, rfl⟩
variable {K : PySem.W.Frag}
theorem mB_abs : CallM K (fun xs H Q => ∃ i, xs = [.int i] ∧ Q (.int (if i < 0 then -i else i)) H) absB := by
  intro c σ H tv vs env td ds d Q hl a e q
  unfold absB at e
  split at e <;> cases e
  obtain ⟨v, rfl⟩ := vs1 hl
  have := A.sv (v := v) (tv := tv) a rfl
  subst this
  exact ⟨_, rfl, q _ _ (a.push rfl)⟩
theorem mB_int : CallM K (fun xs H Q => (∃ i, xs = [.int i] ∧ Q (.int i) H) ∨ ∃ k, xs = [.bl k] ∧ Q (.int (if k then 1 else 0)) H) intB := by
  intro c σ H tv vs env td ds d Q hl a e q
  unfold intB at e
  split at e <;> cases e
  · obtain ⟨v, rfl⟩ := vs1 hl
    have := A.sv (v := v) (tv := tv) a rfl
    subst this
    exact .inl ⟨_, rfl, q _ _ (a.push rfl)⟩
  · obtain ⟨v, rfl⟩ := vs1 hl
    have := A.sv (v := v) (tv := tv) a rfl
    subst this
    exact .inr ⟨_, rfl, q _ _ (a.push rfl)⟩
theorem mB_max : CallM K (fun xs H Q => ∃ i j, xs = [.int i, .int j] ∧ Q (.int (if j > i then j else i)) H) maxB := by
  intro c σ H tv vs env td ds d Q hl a e q
  unfold maxB at e
  split at e <;> cases e
  obtain ⟨v, w, rfl⟩ := vs2 hl
  have h1 := A.sv (v := v) (tv := w :: tv) a rfl
  have h2 := A.sv (v := w) (tv := tv) (A.pop a) rfl
  subst h1; subst h2
  exact ⟨_, _, rfl, q _ _ (a.push rfl)⟩
theorem mB_min : CallM K (fun xs H Q => ∃ i j, xs = [.int i, .int j] ∧ Q (.int (if j < i then j else i)) H) minB := by
  intro c σ H tv vs env td ds d Q hl a e q
  unfold minB at e
  split at e <;> cases e
  obtain ⟨v, w, rfl⟩ := vs2 hl
  have h1 := A.sv (v := v) (tv := w :: tv) a rfl
  have h2 := A.sv (v := w) (tv := tv) (A.pop a) rfl
  subst h1; subst h2
  exact ⟨_, _, rfl, q _ _ (a.push rfl)⟩
/-! len -/
def lenB : List D → Option D
  | [d] => match seqOf d with
    | some l => some (.int (l.length : Nat))
    | none => match d with
      | .str z => if z.length ≤ 16777216 then some (.int (z.length : Nat)) else none
      | _ => none
  | _ => none
theorem A.seqOf {c : Cn} {σ : Sl} {H : Hp} {tv : List V} {env td : List D} {v : V} {d : D} {l : List D} (a : A K c σ H (v :: tv) env (d :: td)) (e : Pm.seqOf d = some l) : ∃ p vs, v = .ref p ∧ vs.length = l.length ∧ ((Pm.lstOf d = some l ∧ SqL K H p vs) ∨ (Pm.tupOf d = some l ∧ SqT K H p vs)) := by
  unfold Pm.seqOf at e
  cases q : Pm.tupOf d with
  | some l' =>
    rw [q] at e
    cases e
    obtain ⟨p, vs, rfl, h, a1⟩ := a.tupOf q
    exact ⟨p, vs, rfl, by have := a1.same_len; have := a.pop.same_len; simp at *; omega, .inr ⟨rfl, h⟩⟩
  | none =>
    rw [q] at e
    obtain ⟨p, vs, rfl, h, a1⟩ := a.lstOf e
    exact ⟨p, vs, rfl, by have := a1.same_len; have := a.pop.same_len; simp at *; omega, .inl ⟨e, h⟩⟩
theorem mB_len : CallM K (fun xs H Q => ∃ x n, xs = [x] ∧ LenV K x H n ∧ Q (.int n) H) lenB := by
  intro c σ H tv vs env td ds d Q hl a e q
  unfold lenB at e
  split at e
  · rename_i d0
    obtain ⟨v, rfl⟩ := vs1 hl
    cases h : seqOf d0 with
    | some l =>
      rw [h] at e
      cases e
      obtain ⟨p, us, rfl, h1, h2⟩ := A.seqOf (v := v) (tv := tv) a h
      refine ⟨_, l.length, rfl, ?_, q _ _ (a.push rfl)⟩
      rcases h2 with ⟨_, h2⟩ | ⟨_, h2⟩
      · exact .inl ⟨us, h2, h1.symm⟩
      · exact .inr ⟨us, h2, h1.symm⟩
    | none =>
      rw [h] at e
      cases d0 <;> try (cases e; done)
      rename_i z
      simp only at e
      by_cases hz : z.length ≤ 16777216
      · rw [if_pos hz] at e
        cases e
        have := A.sv (v := v) (tv := tv) a rfl
        subst this
        exact ⟨_, _, rfl, ⟨line_of hz, rfl⟩, q _ _ (a.push rfl)⟩
      · rw [if_neg hz] at e; cases e
  · cases e
/-! list(..), tuple(..) -/
def allF (l : List D) : Bool := l.all fun d => !isO d
theorem RepL.fr {cl : ClT} {R H : Hp} {f : List Addr} {vs : List V} {ds : List D} (h : RepL K cl R H f vs ds) (n : allF ds = true) : RepL K cl R H [] vs ds := by
  have := h.fp_nil n
  subst this
  exact h
/-- data that need no footprint may be had twice -/
theorem A.dup {c : Cn} {σ : Sl} {H : Hp} {tv : List V} {env td : List D} {v : V} {d : D} {l : List D} (a : A K c σ H (v :: tv) env (d :: td)) (e : Pm.seqOf d = some l) (n : allF l = true) :
    ∃ p vs, v = .ref p ∧ vs.length = l.length ∧ ((Pm.lstOf d = some l ∧ SqL K H p vs) ∨ (Pm.tupOf d = some l ∧ SqT K H p vs)) ∧ A K c σ H (vs ++ (v :: tv)) env (l ++ (d :: td)) := by
  obtain ⟨R, fs, ft, S⟩ := a
  obtain ⟨f, g, rfl, h1, h2⟩ := S.temps.inv
  unfold Pm.seqOf at e
  cases q : Pm.tupOf d with
  | some l' =>
    rw [q] at e
    cases e
    obtain ⟨p, vs, rfl, h3, _, h4⟩ := h1.tupOf q S.same
    exact ⟨p, vs, rfl, h4.length, .inr ⟨rfl, h3⟩, R, fs, [] ++ (f ++ g), S.perm S.slots ((h4.fr n).append (RepL.cons h1 h2)) (.refl _) fun _ _ => rfl⟩
  | none =>
    rw [q] at e
    obtain ⟨p, vs, f', rfl, h3, h4, _⟩ := h1.lstOf e S.same
    exact ⟨p, vs, rfl, h4.length, .inl ⟨e, h3⟩, R, fs, [] ++ (f ++ g), S.perm S.slots ((h4.fr n).append (RepL.cons h1 h2)) (.refl _) fun _ _ => rfl⟩
def listB : List D → Option D
  | [d] => match seqOf d with
    | some l => if allF l then some (.olst l) else none
    | none => none
  | _ => none
theorem mB_list : CallM K (fun xs H Q => ∃ p ys, xs = [.ref p] ∧ (SqL K H p ys ∨ SqT K H p ys) ∧ ∀ l, H l = none → Q (.ref l) (upd H l (.lst ys))) listB := by
  intro c σ H tv vs env td ds d Q hl a e q
  unfold listB at e
  split at e
  · rename_i d0
    obtain ⟨v, rfl⟩ := vs1 hl
    cases h : seqOf d0 with
    | none => rw [h] at e; cases e
    | some l =>
      rw [h] at e
      simp only at e
      by_cases hn : allF l = true
      · rw [if_pos hn] at e
        cases e
        obtain ⟨p, us, rfl, h1, h2, a1⟩ := A.dup (v := v) (tv := tv) a h hn
        exact ⟨p, us, rfl, h2.imp (·.2) (·.2), fun l0 hl0 => q _ _ (a1.newL h1 hl0)⟩
      · rw [if_neg hn] at e; cases e
  · cases e
def tupleB : List D → Option D
  | [d] => match tupOf d with
    | some l => if allF l then some (.tup l) else none
    | none => match lstOf d with
      | some l => if allF l then some (.tup l) else none
      | none => none
  | _ => none
theorem mkT_F {l : List D} (h : allF l = true) : mkT l = .tup l := if_pos h
theorem A.dupT {c : Cn} {σ : Sl} {H : Hp} {tv : List V} {env td : List D} {v : V} {d : D} {l : List D} (a : A K c σ H (v :: tv) env (d :: td)) (e : Pm.tupOf d = some l) (n : allF l = true) : A K c σ H (v :: v :: tv) env (.tup l :: d :: td) := by
  obtain ⟨R, fs, ft, S⟩ := a
  obtain ⟨f, g, rfl, h1, h2⟩ := S.temps.inv
  obtain ⟨p, vs, rfl, h3, h3', h4⟩ := h1.tupOf e S.same
  exact ⟨R, fs, [] ++ (f ++ g), S.perm S.slots (RepL.cons (f := []) (by rw [← mkT_F n]; exact rep_mkT (h4.fr n) h3') (RepL.cons h1 h2)) (.refl _) fun _ _ => rfl⟩
theorem mB_tuple : CallM K (fun xs H Q => ∃ p ys, xs = [.ref p] ∧ ((SqL K H p ys ∧ ∀ l, H l = none → Q (.ref l) (upd H l (.tup ys))) ∨ (SqT K H p ys ∧ Q (.ref p) H))) tupleB := by
  intro c σ H tv vs env td ds d Q hl a e q
  unfold tupleB at e
  split at e
  · rename_i d0
    obtain ⟨v, rfl⟩ := vs1 hl
    cases h : tupOf d0 with
    | some l =>
      rw [h] at e
      simp only at e
      by_cases hn : allF l = true
      · rw [if_pos hn] at e
        cases e
        obtain ⟨p, us, rfl, h1, _⟩ := A.tupOf (v := v) (tv := tv) a h
        exact ⟨p, us, rfl, .inr ⟨h1, q _ _ (A.dupT (tv := tv) a h hn)⟩⟩
      · rw [if_neg hn] at e; cases e
    | none =>
      rw [h] at e
      simp only at e
      cases h2 : lstOf d0 with
      | none => rw [h2] at e; cases e
      | some l =>
        rw [h2] at e
        simp only at e
        by_cases hn : allF l = true
        · rw [if_pos hn] at e
          cases e
          have hs : seqOf d0 = some l := by unfold Pm.seqOf; rw [h]; exact h2
          obtain ⟨p, us, rfl, h1, h3, a1⟩ := A.dup (v := v) (tv := tv) a hs hn
          rcases h3 with ⟨_, h3⟩ | ⟨h3, _⟩
          · refine ⟨p, us, rfl, .inl ⟨h3, fun l0 hl0 => ?_⟩⟩
            have := a1.newT h1 hl0
            rw [mkT_F hn] at this
            exact q _ _ this
          · rw [h] at h3; cases h3
        · rw [if_neg hn] at e; cases e
  · cases e
end Pm

namespace Pm
open PySem PySem.Spec PyProof.Rows L2
/-! ### fields -/
section
variable {K : PySem.W.Frag} {c : Cn} {σ : Sl} {H : Hp} {tv vs : List V} {env td ds : List D} {v : V} {d : D}
theorem lookup_at {f : Str} {v : V} : ∀ {fs : List (Str × V)} {j : Nat}, (fs.map (·.1)).Nodup → fs[j]? = some (f, v) → fs.lookup f = some v
  | [], j, _, h => by simp at h
  | (g, w) :: fs, 0, _, h => by
    have : (g, w) = (f, v) := by simpa using h
    cases this
    simp [List.lookup]
  | (g, w) :: fs, j + 1, nd, h => by
    have h' : fs[j]? = some (f, v) := by simpa using h
    have nd' := List.nodup_cons.mp (by simpa using nd : (g :: fs.map (·.1)).Nodup)
    have hm : f ∈ fs.map (·.1) := List.mem_map.mpr ⟨(f, v), List.mem_of_getElem? h', rfl⟩
    have hne : (f == g) = false := by
      by_cases e : f = g
      · rw [e] at hm; exact absurd hm nd'.1
      · simpa using e
    rw [List.lookup_cons, hne]
    exact lookup_at nd'.2 h'
theorem lookup_not {f : Str} {fs : List (Str × V)} (h : f ∉ fs.map (·.1)) : fs.lookup f = none := by
  induction fs with
  | nil => rfl
  | cons p fs ih =>
    obtain ⟨g, w⟩ := p
    have h1 : ¬ f = g := fun e => h (by simp [e])
    have h2 : f ∉ fs.map (·.1) := fun e => h (by simp at e ⊢; exact .inr e)
    rw [List.lookup_cons, show (f == g) = false by simpa using h1]
    exact ih h2
/-- the classes that have this attribute, and its place -/
structure AtOk (K : PySem.W.Frag) (cl : ClT) (js : List (Nat × Nat)) (f : Str) : Prop where
  ok : ∀ c j, js.lookup c = some j → (∀ C, cl.ad c = some C → Cls K C ∧ NoAttr K C f) ∧ (cl.fl c)[j]? = some f ∧ (cl.fl c).Nodup
def insOf : D → Option (Nat × List D)
  | .ins c l | .oins c l => some (c, l)
  | _ => none
def atD (js : List (Nat × Nat)) (d : D) : Option D := match insOf d with
  | some (c, l) => match js.lookup c with
    | some j => l[j]?
    | none => none
  | none => none
theorem Rep.insOf {cl : ClT} {R : Hp} {fp : List Addr} {q : Nat} {l : List D} (h : Rep K cl R H fp v d) (e : Pm.insOf d = some (q, l)) (s : Same R H) : ∃ a C dx fv f, v = .ref a ∧ cl.ad q = some C ∧ H a = some (.ins C dx fv) ∧ fv.map (·.1) = (cl.fl q).take l.length ∧ RepL K cl R H f (fv.map (·.2)) l ∧ (fp = f ∨ fp = a :: f) := by
  cases d <;> simp only [Pm.insOf] at e <;> cases e
  · simp only [Rep] at h
    obtain ⟨rfl, a, C, dx, fv, h1, h2, h3, h4, h5⟩ := h
    exact ⟨a, C, dx, fv, [], h1, h2, s _ _ h3, h4, h5, .inl rfl⟩
  · simp only [Rep] at h
    obtain ⟨a, C, dx, fv, f, h1, h2, h3, h4, h5, h6⟩ := h
    exact ⟨a, C, dx, fv, f, h1, h2, h3, h4, h6, .inr h5⟩
theorem map_at {fv : List (Str × V)} {N : List Str} {n j : Nat} {f : Str} {w : V} (h : fv.map (·.1) = N.take n) (e : N[j]? = some f) (e2 : (fv.map (·.2))[j]? = some w) : fv[j]? = some (f, w) := by
  rw [List.getElem?_map] at e2
  cases q : fv[j]? with
  | none => rw [q] at e2; cases e2
  | some p =>
    rw [q] at e2
    obtain ⟨g, w'⟩ := p
    have hw : w' = w := by simpa using e2
    subst hw
    have h2 : (fv.map (·.1))[j]? = some g := by rw [List.getElem?_map, q]; rfl
    rw [h, List.getElem?_take] at h2
    split at h2
    · rw [e] at h2; cases h2; rfl
    · cases h2
/-- a field of what is under way -/
theorem A.atD {js : List (Nat × Nat)} {f : Str} {r : D} (a : A K c σ H (v :: tv) env (d :: td)) (T : AtOk K c.cl js f) (e : Pm.atD js d = some r) : ∃ p C dx fs w, v = .ref p ∧ H p = some (.ins C dx fs) ∧ Cls K C ∧ NoAttr K C f ∧ fs.lookup f = some w ∧ A K c σ H (w :: tv) env (r :: td) := by
  unfold Pm.atD at e
  cases q : Pm.insOf d with
  | none => rw [q] at e; cases e
  | some p =>
    obtain ⟨x, l⟩ := p
    rw [q] at e
    simp only at e
    cases q2 : js.lookup x with
    | none => rw [q2] at e; cases e
    | some j =>
      rw [q2] at e
      simp only at e
      obtain ⟨t1, t2, t3⟩ := T.ok x j q2
      obtain ⟨R, fs, ft, S⟩ := a
      obtain ⟨f0, g0, rfl, h1, h2⟩ := S.temps.inv
      obtain ⟨p, C, dx, fv, f1, rfl, h3, h4, h5, h6, h7⟩ := h1.insOf q S.same
      obtain ⟨cl0, na⟩ := t1 C h3
      have a2 : A K c σ H (fv.map (·.2) ++ tv) env (l ++ td) := by
        refine ⟨R, fs, f1 ++ g0, S.sub S.slots (h6.append h2) ?_ fun _ _ => rfl⟩
        rcases h7 with rfl | rfl
        · exact ⟨[], by simp⟩
        · refine ⟨[p], ?_⟩
          rw [List.append_assoc]
          exact List.Perm.append_left _ (by rw [List.append_assoc, List.cons_append]; exact (List.Perm.append_left f1 List.perm_append_comm).trans (by rw [← List.append_assoc]; exact (List.perm_append_comm (l₁ := f1) (l₂ := [p])).append_right g0))
      obtain ⟨w, e3, a3⟩ := a2.pickT h6.length e
      have e4 := map_at h5 t2 e3
      exact ⟨p, C, dx, fv, w, rfl, h4, cl0, na, lookup_at (by rw [h5]; exact t3.sublist (List.take_sublist _ _)) e4, a3⟩
end
section
variable {X : Cx} {c : Cn} {e o : Expr} {es : List Expr} {f g : M D} {pos : Pos} {tk : List (Option Nat)} {m : M (List D)} {x fl : Str} {p : Pos} {js : List (Nat × Nat)}
def eAt (js : List (Nat × Nat)) (f : M D) : M D := bnd f fun d => lft (atD js d)
theorem m_at (T : AtOk X.K c.cl js fl) (he : PE X e (tM X.K c f)) (hb : attributeBase e fl X.env (eval e X.env) = eval e X.env := by rfl) : PE X (.Attribute e fl pos) (tM X.K c (eAt js f)) := (pe_fld he hb).imp fun σ H Q ⟨tv, env, td, a, ok⟩ =>
  ⟨tv, env, td, a, ok.bnd.mono fun d e1 ok1 H1 v a1 => by
    obtain ⟨r, er, q⟩ := ok1.lft
    obtain ⟨p, C, dx, fs, w, rfl, h1, h2, h3, h4, a2⟩ := a1.atD T er
    exact ⟨p, C, dx, fs, w, rfl, h1, h2, h3, h4, q H1 w a2⟩⟩
/-- a field of a slot's thing, the thing stays its slot's own -/
def eAtV (i : Nat) (js : List (Nat × Nat)) : M D := fun env => match getV i env with
  | some d => match atD js d with
    | some r => if isO r then .bad else .ok r env
    | none => .bad
  | none => .bad
theorem A.keepF {K : PySem.W.Frag} {σ : Sl} {H : Hp} {tv : List V} {env td : List D} {w v : V} {r d : D} (a : A K c σ H (w :: tv) env (r :: td)) (h : isO r = false) (b : A K c σ H (v :: tv) env (d :: td)) : True := trivial
theorem A.atV {K : PySem.W.Frag} {σ : Sl} {H : Hp} {tv : List V} {env td : List D} {i : Nat} {d r : D} (a : A K c σ H tv env td) (T : AtOk K c.cl js fl) (e : env[i]? = some d) (n : isU d = false) (er : Pm.atD js d = some r) (nr : isO r = false) :
    ∃ p C dx fs w, σ[i]? = some (some (.ref p)) ∧ H p = some (.ins C dx fs) ∧ Cls K C ∧ NoAttr K C fl ∧ fs.lookup fl = some w ∧ A K c σ H (w :: tv) env (r :: td) := by
  obtain ⟨R, fs, ft, S⟩ := a
  obtain ⟨f0, g0, x, e1, p0, h1, k⟩ := RepS.take S.slots e
  obtain ⟨v, rfl, h2⟩ := h1.some_of n
  unfold Pm.atD at er
  cases q : Pm.insOf d with
  | none => rw [q] at er; cases er
  | some p =>
    obtain ⟨x, l⟩ := p
    rw [q] at er
    simp only at er
    cases q2 : js.lookup x with
    | none => rw [q2] at er; cases er
    | some j =>
      rw [q2] at er
      simp only at er
      obtain ⟨t1, t2, t3⟩ := T.ok x j q2
      obtain ⟨p, C, dx, fv, f1, rfl, h3, h4, h5, h6, h7⟩ := h2.insOf q S.same
      obtain ⟨cl0, na⟩ := t1 C h3
      obtain ⟨f3, w, e3, h8, _⟩ := h6.get er
      have h9 := h8.fp_nil nr
      subst h9
      exact ⟨p, C, dx, fv, w, e1, h4, cl0, na, lookup_at (by rw [h5]; exact t3.sublist (List.take_sublist _ _)) (map_at h5 t2 e3), R, fs, [] ++ ft, S.perm S.slots (RepL.cons h8 S.temps) (.refl _) fun _ _ => rfl⟩
theorem m_atV (i : Nat) (T : AtOk X.K c.cl js fl) (hN : X.N[i]? = some x) (hv : Vis X.env.scope x) (hb : attributeBase (.Name x p) fl X.env (eval (.Name x p) X.env) = eval (.Name x p) X.env := by rfl) (hd : (x == ("__debug__" : Str)) = false := by decide) (hcd : (x == ("__classdict__" : Str)) = false := by decide) :
    PE X (.Attribute (.Name x p) fl pos) (tM X.K c (eAtV i js)) := (pe_fld (pe_var hN hv hd hcd) hb).imp fun σ H Q ⟨tv, env, td, a, ok⟩ => by
  unfold eAtV at ok
  cases q : getV i env with
  | none => rw [q] at ok; exact ok.elim
  | some d =>
    rw [q] at ok
    simp only at ok
    obtain ⟨q1, q2⟩ := getV_some q
    cases q3 : atD js d with
    | none => rw [q3] at ok; exact ok.elim
    | some r =>
      rw [q3] at ok
      simp only at ok
      cases q4 : isO r with
      | true => simp only [q4, if_true] at ok; exact ok.elim
      | false =>
        simp only [q4] at ok
        obtain ⟨p, C, dx, fs, w, h1, h2, h3, h4, h5, a1⟩ := a.atV T q1 q2 q3 q4
        exact ⟨_, h1, p, C, dx, fs, w, rfl, h2, h3, h4, h5, ok H w a1⟩
end
end Pm

namespace Pm
open PySem PySem.Spec PyProof.Rows L2
section
variable {K : PySem.W.Frag} {c : Cn} {σ : Sl} {H : Hp} {tv vs : List V} {env td ds : List D} {v y : V} {d r : D}
/-! ### self.f = e -/
def setF (l : List D) (j : Nat) (d : D) : List D := if j < l.length then l.set j d else l ++ [d]
theorem putF_new {f : Str} {y : V} : ∀ {fs : List (Str × V)}, f ∉ fs.map (·.1) → putF f y fs = fs ++ [(f, y)]
  | [], _ => rfl
  | (g, w) :: fs, h => by
    have h1 : ¬ g = f := fun e => h (by simp [e])
    have h2 : f ∉ fs.map (·.1) := fun e => h (by simp at e ⊢; exact .inr e)
    show (if g = f then _ else (g, w) :: putF f y fs) = _
    rw [if_neg h1, putF_new h2]
    rfl
theorem putF_old {f : Str} {y : V} : ∀ {fs : List (Str × V)} {j : Nat}, (fs.map (·.1)).Nodup → (fs.map (·.1))[j]? = some f → putF f y fs = fs.set j (f, y)
  | [], _, _, h => by simp at h
  | (g, w) :: fs, 0, _, h => by
    have : g = f := by simpa using h
    show (if g = f then _ else _) = _
    rw [if_pos this, this]
    rfl
  | (g, w) :: fs, j + 1, nd, h => by
    have h' : (fs.map (·.1))[j]? = some f := by simpa using h
    have nd' := List.nodup_cons.mp (by simpa using nd : (g :: fs.map (·.1)).Nodup)
    have hne : ¬ g = f := fun e => nd'.1 (by rw [e]; exact List.mem_of_getElem? h')
    show (if g = f then _ else (g, w) :: putF f y fs) = _
    rw [if_neg hne, putF_old nd'.2 h']
    rfl
/-- one of several replaced -/
theorem RepL.set {cl : ClT} {R H : Hp} : ∀ {ds : List D} {f : List Addr} {vs : List V} {j : Nat} {g : List Addr} {y : V} {d : D}, RepL K cl R H f vs ds → j < ds.length → Rep K cl R H g y d → ∃ f1 f2, RepL K cl R H f1 (vs.set j y) (ds.set j d) ∧ (f1 ++ f2).Perm (f ++ g)
  | [], _, _, _, _, _, _, _, h, _ => by simp at h
  | d0 :: ds, f, vs, 0, g, y, d, h, _, hr => by
    obtain ⟨f0, g0, x, xs, rfl, rfl, h1, h2⟩ := RepL.cons_iff.mp h
    refine ⟨g ++ g0, f0, RepL.cons hr h2, ?_⟩
    rw [List.append_assoc]
    refine (List.perm_append_comm (l₁ := g)).trans ?_
    exact (List.perm_append_comm (l₁ := g0) (l₂ := f0)).append_right g
  | d0 :: ds, f, vs, j + 1, g, y, d, h, hj, hr => by
    obtain ⟨f0, g0, x, xs, rfl, rfl, h1, h2⟩ := RepL.cons_iff.mp h
    obtain ⟨f1, f2, h3, p⟩ := RepL.set (j := j) h2 (by simpa using hj) hr
    refine ⟨f0 ++ f1, f2, RepL.cons h1 h3, ?_⟩
    rw [List.append_assoc, List.append_assoc]
    exact List.Perm.append_left _ p
theorem RepL.snoc {cl : ClT} {R H : Hp} {ds : List D} {f g : List Addr} {vs : List V} (h : RepL K cl R H f vs ds) (hr : Rep K cl R H g y d) : RepL K cl R H (f ++ g) (vs ++ [y]) (ds ++ [d]) := by
  have := h.append (RepL.cons (g := []) (xs := []) (ds := []) hr (RepL.nil_iff.mpr ⟨rfl, rfl⟩))
  simpa using this
/-- THE WRITE: an owned thing of a slot is changed, with what is under way -/
theorem A.wr {i : Nat} {d' : D} {p : Addr} {o' : HO} (a : A K c σ H tv env td) (e : env[i]? = some d) (n : isU d = false) {ws : List V} {es : List D} {tv1 : List V} {td1 : List D} (htv : tv = ws ++ tv1) (htd : td = es ++ td1) (hl : ws.length = es.length)
    (hσ : σ[i]? = some (some (.ref p)))
    (new : ∀ R f g, Rep K c.cl R H f (.ref p) d → RepL K c.cl R H g ws es → (∀ b ∈ f, ∀ b' ∈ g, b ≠ b') → f.Nodup → g.Nodup → (∀ b ∈ f ++ g, ∃ o, H b = some o) → p ∈ f ∧ ∃ f1 f2, Rep K c.cl R (upd H p o') f1 (.ref p) d' ∧ (f1 ++ f2).Perm (f ++ g)) :
    A K c σ (upd H p o') tv1 (env.set i d') td1 := by
  subst htv htd
  obtain ⟨R, fs, ft, S⟩ := a
  obtain ⟨g, g1, rfl, ht1, ht2⟩ := S.temps.split hl
  obtain ⟨f0, g0, x, e1, p0, h1, k⟩ := RepS.take S.slots e
  rw [hσ] at e1
  cases e1
  have h2 : Rep K c.cl R H f0 (.ref p) d := h1
  have nd := S.nd
  have ndp : (f0 ++ g0 ++ (g ++ g1)).Nodup := (nd_perm p0 (.refl _)).nodup_iff.mp nd
  obtain ⟨n1, n2, n3⟩ := List.nodup_append.mp ndp
  obtain ⟨n4, n5, n6⟩ := List.nodup_append.mp n1
  obtain ⟨n7, n8, n9⟩ := List.nodup_append.mp n2
  have own : ∀ b, b ∈ f0 ++ g0 ++ (g ++ g1) → b ∈ fs ++ (g ++ g1) := fun b hb => (nd_perm p0 (.refl _)).mem_iff.mpr hb
  obtain ⟨hp, f1, f2, h3, p1⟩ := new R f0 g h2 ht1 (fun b hb b' hb' => n3 b (List.mem_append_left _ hb) b' (List.mem_append_left _ hb')) n4 n7 (fun b hb => (S.own b (own b (by
    rcases List.mem_append.mp hb with z | z
    · exact List.mem_append_left _ (List.mem_append_left _ z)
    · exact List.mem_append_right _ (List.mem_append_left _ z)))).2.1)
  have hpm : p ∈ fs ++ (g ++ g1) := own p (List.mem_append_left _ (List.mem_append_left _ hp))
  have ev : Ev R H (fs ++ (g ++ g1)) R (upd H p o') := Ev.write S.same hpm (S.own p hpm).1
  obtain ⟨fp', p2, hs⟩ := k R (upd H p o') (Same.refl R) (fun b hb => upd_ne (fun q => n6 p hp b hb q.symm)) f1 (some (.ref p)) d' h3
  rw [set_self hσ] at hs
  have pp : (fp' ++ g1 ++ f2).Perm (fs ++ (g ++ g1)) := by
    have q1 : (fs ++ (g ++ g1)).Perm ((f0 ++ g0) ++ (g ++ g1)) := nd_perm p0 (.refl _)
    refine List.Perm.trans ?_ q1.symm
    refine ((p2.append_right g1).append_right f2).trans ?_
    -- (f1 ++ g0) ++ g1 ++ f2 ~ f0 ++ g0 ++ (g ++ g1)
    have q2 : (f1 ++ g0 ++ g1 ++ f2).Perm ((f1 ++ f2) ++ (g0 ++ g1)) := by
      simp only [List.append_assoc]
      refine List.Perm.append_left f1 ?_
      rw [← List.append_assoc]
      exact List.perm_append_comm
    refine q2.trans ((p1.append_right _).trans ?_)
    simp only [List.append_assoc]
    refine List.Perm.append_left f0 ?_
    rw [← List.append_assoc, ← List.append_assoc]
    exact List.perm_append_comm.append_right g1
  have mem1 : ∀ b, b ∈ fp' ++ g1 → b ∈ fs ++ (g ++ g1) := fun b hb => pp.mem_iff.mp (List.mem_append_left _ hb)
  refine ⟨R, fp', g1, S.go ev hs (RepL.mono (Same.refl R) _ (fun b hb => upd_ne (fun q => n3 p (List.mem_append_left _ hp) b (List.mem_append_right _ hb) q.symm)) ht2) ?_ (fun b hb => ?_) fun _ _ => rfl⟩
  · exact (List.nodup_append.mp (pp.nodup_iff.mpr S.nd)).1
  · obtain ⟨q1, ⟨o, q2⟩, _⟩ := S.own b (mem1 b hb)
    refine ⟨q1, ?_, .inl (mem1 b hb)⟩
    by_cases h : b = p
    · exact ⟨o', by rw [h, upd_same]⟩
    · exact ⟨o, by rw [upd_ne h]; exact q2⟩
/-- what stands in a slot, seen -/
theorem A.slot {i : Nat} (a : A K c σ H tv env td) (e : env[i]? = some d) (n : isU d = false) : ∃ v R f, σ[i]? = some (some v) ∧ Rep K c.cl R H f v d ∧ Same R H := by
  obtain ⟨R, fs, ft, S⟩ := a
  obtain ⟨f0, g0, x, e1, p0, h1, k⟩ := RepS.take S.slots e
  obtain ⟨v, rfl, h2⟩ := h1.some_of n
  exact ⟨v, R, f0, e1, h2, S.same⟩
theorem A.setAt {i q j : Nat} {l : List D} {f : Str} (a : A K c σ H (y :: tv) env (d :: td)) (e : env[i]? = some (.oins q l)) (hj : j ≤ l.length) (hf : (c.cl.fl q)[j]? = some f) (nd : (c.cl.fl q).Nodup) :
    ∃ p C dx fv, σ[i]? = some (some (.ref p)) ∧ c.cl.ad q = some C ∧ H p = some (.ins C dx fv) ∧ fv.length = l.length ∧ A K c σ (upd H p (.ins C dx (putF f y fv))) tv (env.set i (.oins q (setF l j d))) td := by
  obtain ⟨v, R0, f0, e1, h1, s0⟩ := a.slot e rfl
  simp only [Rep] at h1
  obtain ⟨p, C, dx, fv, f1, rfl, h2, h3, h4, h5, h6⟩ := h1
  refine ⟨p, C, dx, fv, e1, h2, h3, by have := h6.length; simpa using this, A.wr (ws := [y]) (es := [d]) a e rfl rfl rfl rfl e1 fun R f g k1 k2 dis ndf ndg live => ?_⟩
  simp only [Rep] at k1
  obtain ⟨p', C', dx', fv', f2, ep, k3, k4, k5, rfl, k6⟩ := k1
  cases ep
  rw [h3] at k4
  cases k4
  have hyd : Rep K c.cl R H g y d := by
    obtain ⟨ga, gb, rfl, k7, k8⟩ := k2.inv
    obtain ⟨rfl, _⟩ := RepL.nil_iff.mp k8
    rw [List.append_nil]
    exact k7
  have nf2 : p ∉ f2 := (List.nodup_cons.mp ndf).1
  have ng : p ∉ g := fun z => dis p List.mem_cons_self p z rfl
  have mono2 : ∀ b ∈ f2, upd H p (.ins C dx (putF f y fv)) b = H b := fun b hb => upd_ne (fun z => nf2 (z ▸ hb))
  have monog : ∀ b ∈ g, upd H p (.ins C dx (putF f y fv)) b = H b := fun b hb => upd_ne (fun z => ng (z ▸ hb))
  have m1 := RepL.mono (Same.refl R) _ mono2 k6
  have m2 := Rep.mono (Same.refl R) _ monog hyd
  have hlen : fv.length = l.length := by have := k6.length; simpa using this
  refine ⟨List.mem_cons_self, ?_⟩
  unfold setF
  by_cases hlt : j < l.length
  · rw [if_pos hlt]
    obtain ⟨f3, f4, k9, pm⟩ := RepL.set m1 hlt m2
    refine ⟨p :: f3, f4, ?_, by simpa using List.Perm.cons p pm⟩
    have hname : (fv.map (·.1))[j]? = some f := by rw [k5, List.getElem?_take, if_pos hlt, hf]
    have hnd : (fv.map (·.1)).Nodup := by rw [k5]; exact nd.sublist (List.take_sublist _ _)
    have ep := putF_old (y := y) hnd hname
    simp only [Rep]
    refine ⟨p, C, dx, putF f y fv, f3, rfl, k3, upd_same, ?_, rfl, ?_⟩
    · rw [ep, List.map_set, List.length_set, k5]
      exact set_self (by rw [← k5]; exact hname)
    · have e9 : (putF f y fv).map (·.2) = (fv.map (·.2)).set j y := by rw [ep, List.map_set]
      rw [e9]; exact k9
  · rw [if_neg hlt]
    have ej : j = l.length := by omega
    subst ej
    refine ⟨p :: (f2 ++ g), [], ?_, by simp⟩
    have hnew : f ∉ fv.map (·.1) := fun z => by
      rw [k5] at z
      obtain ⟨i', hi1⟩ := List.getElem?_of_mem z
      rw [List.getElem?_take] at hi1
      split at hi1
      · rename_i hlt2
        have := (List.getElem?_inj (by exact (List.getElem?_eq_some_iff.mp hi1).1) nd).mp (hi1.trans hf.symm)
        omega
      · cases hi1
    have ep := putF_new (y := y) hnew
    simp only [Rep]
    refine ⟨p, C, dx, putF f y fv, f2 ++ g, rfl, k3, upd_same, ?_, rfl, ?_⟩
    · rw [ep, List.map_append, k5, List.length_append]
      have hlt3 : l.length < (c.cl.fl q).length := (List.getElem?_eq_some_iff.mp hf).1
      show _ ++ [f] = (c.cl.fl q).take (l.length + 1)
      rw [List.take_add_one, hf]
      rfl
    · have e9 : (putF f y fv).map (·.2) = fv.map (·.2) ++ [y] := by rw [ep, List.map_append]; rfl
      rw [e9]
      exact RepL.snoc m1 m2
end
section
variable {X : Cx} {c : Cn} {e o : Expr} {es : List Expr} {f g : M D} {pos : Pos} {tk : List (Option Nat)} {m : M (List D)} {x fl : Str} {p pos' : Pos}
def sAt (i q j : Nat) (f : M D) : M Fl := bnd f fun d env => match env[i]? with
  | some (.oins q' l) => if q' = q ∧ j ≤ l.length ∧ l.length < 1000 then .ok .nx (env.set i (.oins q (setF l j d))) else .bad
  | _ => .bad
theorem s_at (i q j : Nat) (T : (∀ C, c.cl.ad q = some C → Cls X.K C ∧ NoAttr X.K C fl) ∧ (c.cl.fl q)[j]? = some fl ∧ (c.cl.fl q).Nodup) (hN : X.N[i]? = some x) (hv : Vis X.env.scope x) (he : PE X e (tM X.K c f)) (hs : swapsWith e (some (.Attribute (.Name x p) fl pos')) pos.line X.env = pure false := by rfl)
    (hd : (x == ("__debug__" : Str)) = false := by decide) (hcd : (x == ("__classdict__" : Str)) = false := by decide) : PS X (.Assign [.Attribute (.Name x p) fl pos'] e pos) (tS X.K c (sAt i q j f)) :=
  (ps_fld (pe_var hN hv hd hcd) he hs).imp fun D σ H ⟨tv, env, td, a, ok⟩ => ⟨tv, env, td, a, (ok.bnd σ).mono fun d e1 ok1 H1 v a1 => by
    cases h : e1[i]? with
    | none => simp only [h] at ok1; exact ok1.elim
    | some d0 =>
      simp only [h] at ok1
      cases d0 <;> try (exact ok1.elim)
      rename_i q' l
      simp only at ok1
      by_cases hc : q' = q ∧ j ≤ l.length ∧ l.length < 1000
      · rw [if_pos hc] at ok1
        obtain ⟨rfl, hj, hl⟩ := hc
        obtain ⟨pp, C, dx, fv, h1, h2, h3, h4, a2⟩ := a1.setAt h hj T.2.1 T.2.2
        obtain ⟨t1, t2⟩ := T.1 C h2
        exact ⟨_, h1, pp, C, dx, fv, rfl, h3, t1, t2, by omega, ok1 σ _ a2⟩
      · rw [if_neg hc] at ok1; exact ok1.elim⟩
end
end Pm

namespace Pm
open PySem PySem.Spec PyProof.Rows L2
section
variable {K : PySem.W.Frag} {c : Cn} {σ : Sl} {H : Hp} {tv vs : List V} {env td ds : List D} {v y : V} {d r : D} {mk : List Bool} {n : Nat} {F : List D → Out D}
/-- a promise used -/
theorem sp_of {Q : VK} {E : XK} (a : A K c σ H (vs ++ tv) env (ds ++ td)) (hl : vs.length = ds.length) (hn : vs.length = n)
    (h : match F ds with
      | .ok r ps => ∀ H1 v, A K c σ H1 (v :: (pick mk vs ++ tv)) env (r :: (ps ++ td)) → Q v H1
      | .ex x fs ps => ∀ H1 C v dd, c.cl.ad x = some C → (v = V.non ∧ dd = none ∨ ∃ a, v = V.ref a ∧ dd = some a) → (pick mk vs).length = ps.length → A K c σ H1 (v :: (pick mk vs ++ tv)) env (.xd x fs :: (ps ++ td)) → E (.ref C) dd H1
      | .bad => False) : spM K c.cl mk n F vs H Q E := by
  obtain ⟨R, fs, ft, S⟩ := a
  obtain ⟨f, g, rfl, h1, h2⟩ := S.temps.split hl
  obtain ⟨n1, n2, n3⟩ := List.nodup_append.mp S.nd
  obtain ⟨n4, n5, n6⟩ := List.nodup_append.mp n2
  refine ⟨R, f, ds, h1, S.same, n4, fun b hb => ?_, by omega, ?_⟩
  · obtain ⟨q1, q2, _⟩ := S.own b (List.mem_append_right _ (List.mem_append_left _ hb))
    exact ⟨q1, q2⟩
  · cases q : F ds with
    | bad => rw [q] at h; exact h
    | ok r ps => rw [q] at h; exact fun H1 v b => h H1 v (A.called S h2 b)
    | ex x gs ps =>
      rw [q] at h
      exact fun H1 C v dd e1 e2 b => h H1 C v dd e1 e2 (by have := b.same_len; simpa using this) (A.called S h2 b)
/-! ### a new instance -/
theorem A.newI {q : Nat} {C x dx : Addr} (a : A K c σ H tv env td) (hx : H x = none) (hd : H dx = none) (ne : dx ≠ x) (hC : c.cl.ad q = some C) : A K c σ (upd (upd H dx (.own x)) x (.ins C dx [])) (.ref x :: tv) env (.oins q [] :: td) := by
  obtain ⟨R, fs, ft, S⟩ := a
  have ev1 : Ev R H [] R (upd H dx (.own x)) := Ev.alloc S.same hd
  have hx2 : (upd H dx (.own x)) x = none := by rw [upd_ne (Ne.symm ne)]; exact hx
  have ev2 : Ev R (upd H dx (.own x)) [] R (upd (upd H dx (.own x)) x (.ins C dx [])) := Ev.alloc ev1.s2 hx2
  have ev : Ev R H [] R (upd (upd H dx (.own x)) x (.ins C dx [])) := ev1.trans ev2 fun _ z => nomatch z
  have := SI.goT (f := []) (g := ft) (vs := []) (ds := []) (vs1 := [.ref x]) (ds1 := [.oins q []]) (f1 := [x]) (tv := tv) (td := td) S S.temps ev (fun b hb => (S.own b hb).1) (by
    have : RepL K c.cl R (upd (upd H dx (.own x)) x (.ins C dx [])) ([x] ++ []) [.ref x] [.oins q []] := RepL.cons (by
      simp only [Rep]
      exact ⟨x, C, dx, [], [], rfl, hC, upd_same, by simp, rfl, by simp only [List.map_nil, RepL]; exact ⟨trivial, trivial⟩⟩) (RepL.nil_iff.mpr ⟨rfl, rfl⟩)
    simpa using this) (by simp) (fun b hb => by
    have : b = x := by simpa using hb
    subst this
    exact ⟨S.same.free hx, ⟨_, upd_same⟩, .inr hx⟩)
  exact ⟨R, fs, [x] ++ ft, this⟩
end
section
variable {X : Cx} {c : Cn} {CX : CXT} {e o : Expr} {es : List Expr} {f g : M D} {pos apos p : Pos} {tk : List (Option Nat)} {m : M (List D)} {k n q : Nat} {C fa : Addr} {fd : FuncData} {ps : List Str} {F : List D → Out D} {x mn : Str} {sp : Sp} {E : Sl → XK} {t : TA} {ta : TE}
/-- C(..) where what is raised is wished for at the slots -/
def tMakeS (C : Addr) (sp : Sp) (E : Sl → XK) (t : TA) : TE := fun σ H Q => t σ H fun vs H1 => ∀ x dx, H1 x = none → H1 dx = none → dx ≠ x →
  sp (.ref x :: vs) (upd (upd H1 dx (.own x)) x (.ins C dx [])) (fun v H2 => v = .non ∧ Q (.ref x) H2) (E σ)
theorem run_makeS {pins : List (Addr × Obj)} {σ : Sl} {H : Hp} {s : Shared} {Q : VK} {us : List Value} {vs : List V} (Mm : Mk X.K C fa) (Fn : FnOk X.prog X.w X.K X.mg X.base CX k fa fd ps sp) (hr : Room (k + 1) X.A) (hb : Binds X.K fd ps [])
    (hx : PassesAt CX X σ (E σ)) (I : Inv X pins σ H s) (r : Vals vs us)
    (h : ∀ x dx, H x = none → H dx = none → dx ≠ x → sp (.ref x :: vs) (upd (upd H dx (.own x)) x (.ins C dx [])) (fun v H2 => v = .non ∧ Q (.ref x) H2) (E σ)) :
    wpAny (model X.prog X.w) X.A (call (.ref C) us) (EP X pins σ Q) X.xe s := by
  have hq := h (s.heap.objs.size + 1) s.heap.objs.size (I.hok.fresh (Nat.le_succ _)) (I.hok.fresh (Nat.le_refl _)) (Nat.ne_of_lt (Nat.lt_succ_self _))
  have I2 := Inv.made (C := C) I
  have r2 : Vals (V.ref (s.heap.objs.size + 1) :: vs) (Value.ref (s.heap.objs.size + 1) :: us) := .cons rfl r
  have hl : (Value.ref (s.heap.objs.size + 1) :: us).length = ps.length := by
    have e := r2.length
    rw [Fn.len _ _ _ _ hq] at e
    exact e.symm
  have hb' := hb _ (Value.ref (s.heap.objs.size + 1) :: us) I2.kIn (by rw [List.append_nil]; exact hl)
  rw [List.append_nil] at hb'
  refine wpAny_call (make_map (f := fa) I.kIn Mm.makes Mm.init (beq_iff_eq.mp Mm.fn) (codeAny_mono (Fn.run _ X.stack _ _ ⟨Value.ref (s.heap.objs.size + 1) :: us, []⟩ (Value.ref (s.heap.objs.size + 1) :: us) _ _ (E σ) (hr.make C us [])
    (I2.env0.make C us []) hb' r2 hq) fun r s' hq' => ?_))
  cases r with
  | error e => exact hx pins _ _ e s' I2 hq'
  | ok fl =>
    cases fl with
    | ret u =>
      obtain ⟨v, H', I3, rv, ev, q3⟩ := I2.after hq'
      subst ev
      exact ⟨rv, ⟨V.ref (s.heap.objs.size + 1), H', I3, rfl, q3⟩⟩
    | next => exact False.elim hq'
    | brk => exact False.elim hq'
    | cont => exact False.elim hq'
theorem pe_makeS (Mm : Mk X.K C fa) (Fn : FnOk X.prog X.w X.K X.mg X.base CX k fa fd ps sp) (hr : Room (k + 1) X.A) (hg : Gl X x) (hm : X.mg x = some (.ref C)) (hb : Binds X.K fd ps []) (hx : ∀ σ, PassesAt CX X σ (E σ))
    (ha : PA X (e :: es) t) (hdb : (x == ("__debug__" : Str)) = false := by decide) (he : starEach (e :: es) X.env = (false, eval e X.env) :: starEach es X.env := by rfl) (hpl : (backTo pos (starEach es X.env)).any (·.1) = false := by rfl) :
    PE X (.Call (.Name x p) (e :: es) [] pos) (tMakeS C sp E t) := by
  refine ⟨fun pins s σ H Q I h => ?_⟩
  refine wpAny_Call_Name_kw (ld_glob I hg hm ?_ hdb)
  refine PySem.W.callWith_K (h₀ := X.base) I.ok.mod.kin Mm.kp (thn (ha.run pos pins s σ H _ I h) fun us s1 ⟨vs, H1, I1, r, q⟩ => ⟨I1.kIn, ?_⟩) he hpl
  exact run_makeS Mm Fn hr hb (hx σ) I1 r q
theorem pe_makeS0 (Mm : Mk X.K C fa) (Fn : FnOk X.prog X.w X.K X.mg X.base CX k fa fd ps sp) (hr : Room (k + 1) X.A) (hg : Gl X x) (hm : X.mg x = some (.ref C)) (hb : Binds X.K fd ps []) (hx : ∀ σ, PassesAt CX X σ (E σ))
    (hdb : (x == ("__debug__" : Str)) = false := by decide) : PE X (.Call (.Name x p) [] [] pos) (tMakeS C sp E tNil) := by
  refine ⟨fun pins s σ H Q I h => ?_⟩
  refine wpAny_Call_Name_kw (ld_glob I hg hm ?_ hdb)
  exact PySem.W.callWith_K0 I.kIn Mm.kp (run_makeS (us := []) Mm Fn hr hb (hx σ) I .nil h)
/-- the meaning of C(..): what __init__ leaves of self -/
def eMk (q : Nat) (F : List D → Out D) (tk : List (Option Nat)) (m : M (List D)) : M D := bnd m fun ds env => match F (.oins q [] :: ds) with
  | .ok .non (s :: ps) => .ok s (putB (ids tk) ps env)
  | .ex x fs (_ :: ps) => .ex x fs (putB (ids tk) ps env)
  | _ => .bad
theorem run_mk (hC : c.cl.ad q = some C) (hlk : tk.length + 1 = n) {σ : Sl} {H : Hp} {Q : VK} (h : tM X.K c (eMk q F tk m) σ H Q) : tMakeS C (spM X.K c.cl (true :: tk.map Option.isSome) n F) (WE c.W) (tA X.K c tk m) σ H Q := by
  obtain ⟨tv, env, td, a, ok⟩ := h
  refine ⟨tv, env, td, a, ok.bnd.mono fun ds e1 ok1 H1 vs hl hk a1 x dx hx hdx ne => ?_⟩
  have a2 := a1.newI (q := q) hx hdx ne hC
  refine sp_of (vs := .ref x :: vs) (ds := .oins q [] :: ds) a2 (by simp [hl]) (by have := hk.1; simp; omega) ?_
  obtain ⟨hp1, hp2⟩ := pick_tk hk
  cases hF : F (.oins q [] :: ds) with
  | bad => rw [hF] at ok1; exact ok1.elim
  | ex y fs ps =>
    rw [hF] at ok1
    intro H2 C' v dd e1 e2 hpl b
    cases ps with
    | nil => exact ok1.elim
    | cons s0 ps =>
      have hq : (pick (tk.map Option.isSome) vs).length = ps.length := by simpa [pick] using hpl
      have b1 : A X.K c σ H2 (v :: (.ref x :: (pick (tk.map Option.isSome) vs ++ tv))) _ (.xd y fs :: (s0 :: (ps ++ td))) := b
      have b2 := A.dropMid (vs := [.ref x]) (ds := [s0]) b1 rfl
      exact ok1 H2 (.ref C') dd ⟨C', v, e1, rfl, e2, A.putB hq hp1 hp2 b2⟩
  | ok r ps =>
    rw [hF] at ok1
    intro H2 v b
    cases r <;> try (exact ok1.elim)
    cases ps with
    | nil => exact ok1.elim
    | cons s0 ps =>
      have hv : v = .non := b.sv rfl
      subst hv
      refine ⟨rfl, ?_⟩
      have hq : (pick (tk.map Option.isSome) vs).length = ps.length := by
        have h1 := b.same_len
        have h2 := a1.same_len
        simp [pick] at h1 h2
        omega
      have b1 : A X.K c σ H2 (.ref x :: (pick (tk.map Option.isSome) vs ++ tv)) _ (s0 :: (ps ++ td)) := b.pop
      exact ok1 H2 _ (A.putB hq hp1 hp2 b1)
theorem m_mk (hC : c.cl.ad q = some C) (hlk : tk.length + 1 = n) (Mm : Mk X.K C fa) (Fn : FnOk X.prog X.w X.K X.mg X.base (L2.CX X.prog X.w) k fa fd ps (spM X.K c.cl (true :: tk.map Option.isSome) n F)) (hr : Room (k + 1) X.A) (tkW : Takes X c.W) (hg : Gl X x) (hm : X.mg x = some (.ref C)) (hb : Binds X.K fd ps [])
    (ha : PA X (e :: es) (tA X.K c tk m)) (hdb : (x == ("__debug__" : Str)) = false := by decide) (he : starEach (e :: es) X.env = (false, eval e X.env) :: starEach es X.env := by rfl) (hpl : (backTo pos (starEach es X.env)).any (·.1) = false := by rfl) :
    PE X (.Call (.Name x p) (e :: es) [] pos) (tM X.K c (eMk q F tk m)) := (pe_makeS Mm Fn hr hg hm hb (fun σ => passAt tkW σ) ha hdb he hpl).imp fun _ _ _ h => run_mk hC hlk h
theorem m_mk0 (hC : c.cl.ad q = some C) (Mm : Mk X.K C fa) (Fn : FnOk X.prog X.w X.K X.mg X.base (L2.CX X.prog X.w) k fa fd ps (spM X.K c.cl [true] 1 F)) (hr : Room (k + 1) X.A) (tkW : Takes X c.W) (hg : Gl X x) (hm : X.mg x = some (.ref C)) (hb : Binds X.K fd ps [])
    (hdb : (x == ("__debug__" : Str)) = false := by decide) : PE X (.Call (.Name x p) [] [] pos) (tM X.K c (eMk q F [] aNil)) := (pe_makeS0 Mm Fn hr hg hm hb (fun σ => passAt tkW σ) hdb).imp fun σ H Q h => by
  obtain ⟨tv, env, td, a, ok⟩ := run_mk (tk := []) (n := 1) hC rfl h
  exact ok H [] rfl ⟨rfl, fun k i e => by simp at e⟩ a
/-! ### methods -/
def tMethS (C : Addr) (mn : Str) (sp : Sp) (E : Sl → XK) (ta : TE) (t : TA) : TE := fun σ H Q => ta σ H fun x H1 => ∃ a dx fs, x = .ref a ∧ H1 a = some (.ins C dx fs) ∧ fs.lookup mn = none ∧
  t σ H1 fun vs H2 => sp (x :: vs) H2 Q (E σ)
theorem pe_methSS {pl : Sem Bool} (he : PE X o ta) (cl : Cls X.K C) (hm : Meth X.K C mn fa) (Fn : FnOk X.prog X.w X.K X.mg X.base CX k fa fd ps sp) (hr : Room k X.A) (hb : Binds X.K fd ps []) (hx : ∀ σ, PassesAt CX X σ (E σ)) (ha : PA X (e :: es) t)
    (hc : eval (.Call (.Attribute o mn apos) (e :: es) [] pos) X.env = (do
      let ov ← eval o X.env
      standAt apos.atName
      let (f, first) ← holding [ov] (getMethod ov mn pl)
      callWith pos f first (backTo pos (starEach (e :: es) X.env)) (backToKw pos (keywordEach [] X.env))) := by rfl)
    (hs : starEach (e :: es) X.env = (false, eval e X.env) :: starEach es X.env := by rfl) (hpl : (backTo pos (starEach es X.env)).any (·.1) = false := by rfl) :
    PE X (.Call (.Attribute o mn apos) (e :: es) [] pos) (tMethS C mn sp E ta t) := by
  refine ⟨fun pins s σ H Q I h => ?_⟩
  refine PySem.W.methodCall_KW (pl := pl) (thn (he.run pins s σ H _ I h) fun u s1 ⟨x, H1, I1, rx, a, dx, fs, ex, ea, l, q⟩ => ?_) hc
  subst ex
  obtain rfl : u = Value.ref a := rx
  refine getmeth_ok I1 ea cl hm l ?_
  refine PySem.W.callWith_K (first := [.ref a]) (h₀ := X.base) I.ok.mod.kin hm.kp (thn (ha.run pos pins s1 σ H1 _ I1 q) fun us s2 ⟨vs, H2, I2, r, q2⟩ => ⟨I2.kIn, ?_⟩) hs hpl
  exact run_fnS (us := .ref a :: us) (vs := .ref a :: vs) Fn hr hb (hx σ) I2 (.cons rfl r) q2
theorem pe_methSS0 {pl : Sem Bool} (he : PE X o ta) (cl : Cls X.K C) (hm : Meth X.K C mn fa) (Fn : FnOk X.prog X.w X.K X.mg X.base CX k fa fd ps sp) (hr : Room k X.A) (hb : Binds X.K fd ps []) (hx : ∀ σ, PassesAt CX X σ (E σ))
    (hc : eval (.Call (.Attribute o mn apos) [] [] pos) X.env = (do
      let ov ← eval o X.env
      standAt apos.atName
      let (f, first) ← holding [ov] (getMethod ov mn pl)
      callWith pos f first (backTo pos (starEach [] X.env)) (backToKw pos (keywordEach [] X.env))) := by rfl) :
    PE X (.Call (.Attribute o mn apos) [] [] pos) (tMethS C mn sp E ta tNil) := by
  refine ⟨fun pins s σ H Q I h => ?_⟩
  refine PySem.W.methodCall_KW (pl := pl) (thn (he.run pins s σ H _ I h) fun u s1 ⟨x, H1, I1, rx, a, dx, fs, ex, ea, l, q⟩ => ?_) hc
  subst ex
  obtain rfl : u = Value.ref a := rx
  refine getmeth_ok I1 ea cl hm l ?_
  exact PySem.W.callWith_K0 (first := [.ref a]) I1.kIn hm.kp (run_fnS (us := [.ref a]) (vs := [.ref a]) Fn hr hb (hx σ) I1 (.cons rfl .nil) q)
def eMeth (q : Nat) (F : List D → Out D) (tk : List (Option Nat)) (f : M D) (m : M (List D)) : M D := bnd f fun d => match insOf d with
  | some (q', _) => if q' = q then bnd m fun ds env => match F (d :: ds) with
    | .ok r ps => .ok r (putB (ids tk) ps env)
    | .ex x fs ps => .ex x fs (putB (ids tk) ps env)
    | .bad => .bad
    else fun _ => .bad
  | none => fun _ => .bad
theorem A.ins {K : PySem.W.Frag} {σ : Sl} {H : Hp} {tv : List V} {env td : List D} {v : V} {d : D} {q : Nat} {l : List D} (a : A K c σ H (v :: tv) env (d :: td)) (h : Pm.insOf d = some (q, l)) : ∃ p C dx fs, v = .ref p ∧ c.cl.ad q = some C ∧ H p = some (.ins C dx fs) ∧ fs.map (·.1) = (c.cl.fl q).take l.length := by
  obtain ⟨R, f, h1, s⟩ := a.temp
  obtain ⟨p, C, dx, fv, f', rfl, h2, h3, h4, _⟩ := h1.insOf h s
  exact ⟨p, C, dx, fv, rfl, h2, h3, h4⟩
theorem run_meth (hC : c.cl.ad q = some C) (hlk : tk.length + 1 = n) (hmn : mn ∉ c.cl.fl q) {σ : Sl} {H : Hp} {Q : VK} (h : tM X.K c (eMeth q F tk f m) σ H Q) : tMethS C mn (spM X.K c.cl (false :: tk.map Option.isSome) n F) (WE c.W) (tM X.K c f) (tA X.K c tk m) σ H Q := by
  obtain ⟨tv, env, td, a, ok⟩ := h
  refine ⟨tv, env, td, a, ok.bnd.mono fun d e1 ok1 H1 x a1 => ?_⟩
  cases hi : insOf d with
  | none => simp only [hi] at ok1; exact ok1.elim
  | some ql =>
    obtain ⟨q', l⟩ := ql
    simp only [hi] at ok1
    by_cases hq : q' = q
    · subst hq
      simp only [if_true] at ok1
      obtain ⟨p, C', dx, fs, rfl, h1, h2, h3⟩ := a1.ins hi
      rw [hC] at h1
      cases h1
      refine ⟨p, dx, fs, rfl, h2, lookup_not (fun z => hmn (by rw [h3] at z; exact List.mem_of_mem_take z)), .ref p :: tv, e1, d :: td, a1, (ok1.bnd.over1).mono fun ds e2 ok2 H2 vs hl hk a2 => ?_⟩
      obtain ⟨hp1, hp2⟩ := pick_tk hk
      refine sp_of (vs := .ref p :: vs) (ds := d :: ds) (a2.rot hl) (by simp [hl]) (by have := hk.1; simp; omega) ?_
      cases hF : F (d :: ds) with
      | bad => rw [hF] at ok2; exact ok2.elim
      | ok r ps =>
        rw [hF] at ok2
        intro H3 v b
        exact ok2 H3 v (A.putB (by have h1 := b.same_len; have h2 := a1.pop.same_len; simp [pick] at h1 h2; omega) hp1 hp2 b)
      | ex y gs ps =>
        rw [hF] at ok2
        intro H3 C' v dd e3 e4 hpl b
        exact ok2 H3 (.ref C') dd ⟨C', v, e3, rfl, e4, A.putB (by simpa [pick] using hpl) hp1 hp2 b⟩
    · simp only [hq, if_false] at ok1
      exact ok1.elim
theorem m_meth {pl : Sem Bool} (hC : c.cl.ad q = some C) (hlk : tk.length + 1 = n) (hmn : mn ∉ c.cl.fl q) (he : PE X o (tM X.K c f)) (cl : Cls X.K C) (hm : Meth X.K C mn fa) (Fn : FnOk X.prog X.w X.K X.mg X.base (L2.CX X.prog X.w) k fa fd ps (spM X.K c.cl (false :: tk.map Option.isSome) n F)) (hr : Room k X.A) (tkW : Takes X c.W) (hb : Binds X.K fd ps [])
    (ha : PA X (e :: es) (tA X.K c tk m))
    (hc : eval (.Call (.Attribute o mn apos) (e :: es) [] pos) X.env = (do
      let ov ← eval o X.env
      standAt apos.atName
      let (f, first) ← holding [ov] (getMethod ov mn pl)
      callWith pos f first (backTo pos (starEach (e :: es) X.env)) (backToKw pos (keywordEach [] X.env))) := by rfl)
    (hs : starEach (e :: es) X.env = (false, eval e X.env) :: starEach es X.env := by rfl) (hpl : (backTo pos (starEach es X.env)).any (·.1) = false := by rfl) :
    PE X (.Call (.Attribute o mn apos) (e :: es) [] pos) (tM X.K c (eMeth q F tk f m)) := (pe_methSS he cl hm Fn hr hb (fun σ => passAt tkW σ) ha hc hs hpl).imp fun _ _ _ h => run_meth hC hlk hmn h
theorem nilA {σ : Sl} {H : Hp} {Q : List V → Hp → Prop} (h : tA X.K c [] aNil σ H Q) : tNil σ H Q := by
  obtain ⟨tv, env, td, a, ok⟩ := h
  exact ok H [] rfl ⟨rfl, fun k i e => by simp at e⟩ a
theorem m_meth0 {pl : Sem Bool} (hC : c.cl.ad q = some C) (hmn : mn ∉ c.cl.fl q) (he : PE X o (tM X.K c f)) (cl : Cls X.K C) (hm : Meth X.K C mn fa) (Fn : FnOk X.prog X.w X.K X.mg X.base (L2.CX X.prog X.w) k fa fd ps (spM X.K c.cl [false] 1 F)) (hr : Room k X.A) (tkW : Takes X c.W) (hb : Binds X.K fd ps [])
    (hc : eval (.Call (.Attribute o mn apos) [] [] pos) X.env = (do
      let ov ← eval o X.env
      standAt apos.atName
      let (f, first) ← holding [ov] (getMethod ov mn pl)
      callWith pos f first (backTo pos (starEach [] X.env)) (backToKw pos (keywordEach [] X.env))) := by rfl) :
    PE X (.Call (.Attribute o mn apos) [] [] pos) (tM X.K c (eMeth q F [] f aNil)) := (pe_methSS0 he cl hm Fn hr hb (fun σ => passAt tkW σ) hc).imp fun σ H Q h => by
  obtain ⟨tv, env, td, a, ok⟩ := run_meth (mn := mn) (n := 1) (tk := []) hC rfl hmn h
  exact ⟨tv, env, td, a, ok.mono fun d e k H' v a' => by
    obtain ⟨p, dx, fs, e1, e2, e3, z⟩ := k H' v a'
    exact ⟨p, dx, fs, e1, e2, e3, nilA z⟩⟩
/-- the receiver is a slot's own thing, which the method may change -/
def eMethV (i q : Nat) (F : List D → Out D) (tk : List (Option Nat)) (m : M (List D)) : M D := fun env => match getV i env with
  | some d => match insOf d with
    | some (q', _) => if q' = q then bnd m (fun ds env => match F (d :: ds) with
      | .ok r ps => .ok r (putB (i :: ids tk) ps env)
      | .ex x fs ps => .ex x fs (putB (i :: ids tk) ps env)
      | .bad => .bad) (env.set i .un)
      else .bad
    | none => .bad
  | none => .bad
theorem run_methV {i : Nat} (hC : c.cl.ad q = some C) (hlk : tk.length + 1 = n) (hmn : mn ∉ c.cl.fl q) {σ : Sl} {H : Hp} {Q : VK} (h : tM X.K c (eMethV i q F tk m) σ H Q) : tMethS C mn (spM X.K c.cl (true :: tk.map Option.isSome) n F) (WE c.W) (tVar i) (tA X.K c tk m) σ H Q := by
  obtain ⟨tv, env, td, a, ok⟩ := h
  unfold eMethV at ok
  cases q0 : getV i env with
  | none => rw [q0] at ok; exact ok.elim
  | some d =>
    rw [q0] at ok
    simp only at ok
    obtain ⟨q1, q2⟩ := getV_some q0
    cases hi : insOf d with
    | none => rw [hi] at ok; exact ok.elim
    | some ql =>
      obtain ⟨q', l⟩ := ql
      rw [hi] at ok
      simp only at ok
      by_cases hq : q' = q
      · subst hq
        rw [if_pos rfl] at ok
        obtain ⟨v, e1, a1⟩ := a.takeS q1 q2
        obtain ⟨p, C', dx, fs, rfl, h1, h2, h3⟩ := a1.ins hi
        rw [hC] at h1
        cases h1
        refine ⟨_, e1, p, dx, fs, rfl, h2, lookup_not (fun z => hmn (by rw [h3] at z; exact List.mem_of_mem_take z)), .ref p :: tv, _, d :: td, a1, (ok.bnd.over1).mono fun ds e2 ok2 H2 vs hl hk a2 => ?_⟩
        obtain ⟨hp1, hp2⟩ := pick_tk hk
        refine sp_of (vs := .ref p :: vs) (ds := d :: ds) (a2.rot hl) (by simp [hl]) (by have := hk.1; simp; omega) ?_
        have hp2' : ∀ (j i' : Nat), (i :: ids tk)[j]? = some i' → ∃ w, (.ref p :: pick (tk.map Option.isSome) vs)[j]? = some w ∧ σ[i']? = some (some w) := fun j i' e => by
          cases j with
          | zero =>
            have : i = i' := by simpa using e
            subst this
            exact ⟨_, rfl, e1⟩
          | succ j => simpa using hp2 j i' (by simpa using e)
        cases hF : F (d :: ds) with
        | bad => rw [hF] at ok2; exact ok2.elim
        | ok r ps =>
          rw [hF] at ok2
          intro H3 v b
          exact ok2 H3 v (A.putB (ws := .ref p :: pick (tk.map Option.isSome) vs) (by have h1 := b.same_len; have h2 := a1.pop.same_len; simp [pick] at h1 h2 ⊢; omega) (by simp [hp1]) hp2' b)
        | ex y gs ps =>
          rw [hF] at ok2
          intro H3 C' v dd e3 e4 hpl b
          exact ok2 H3 (.ref C') dd ⟨C', v, e3, rfl, e4, A.putB (ws := .ref p :: pick (tk.map Option.isSome) vs) (by simpa [pick] using hpl) (by simp [hp1]) hp2' b⟩
      · rw [if_neg hq] at ok
        exact ok.elim
theorem m_methV (i : Nat) {y : Str} {pl : Sem Bool} (hC : c.cl.ad q = some C) (hlk : tk.length + 1 = n) (hmn : mn ∉ c.cl.fl q) (hN : X.N[i]? = some y) (hv : Vis X.env.scope y) (cl : Cls X.K C) (hm : Meth X.K C mn fa) (Fn : FnOk X.prog X.w X.K X.mg X.base (L2.CX X.prog X.w) k fa fd ps (spM X.K c.cl (true :: tk.map Option.isSome) n F)) (hr : Room k X.A) (tkW : Takes X c.W) (hb : Binds X.K fd ps [])
    (ha : PA X (e :: es) (tA X.K c tk m))
    (hc : eval (.Call (.Attribute (.Name y p) mn apos) (e :: es) [] pos) X.env = (do
      let ov ← eval (.Name y p) X.env
      standAt apos.atName
      let (f, first) ← holding [ov] (getMethod ov mn pl)
      callWith pos f first (backTo pos (starEach (e :: es) X.env)) (backToKw pos (keywordEach [] X.env))) := by rfl)
    (hs : starEach (e :: es) X.env = (false, eval e X.env) :: starEach es X.env := by rfl) (hpl : (backTo pos (starEach es X.env)).any (·.1) = false := by rfl)
    (hd : (y == ("__debug__" : Str)) = false := by decide) (hcd : (y == ("__classdict__" : Str)) = false := by decide) :
    PE X (.Call (.Attribute (.Name y p) mn apos) (e :: es) [] pos) (tM X.K c (eMethV i q F tk m)) := (pe_methSS (pe_var hN hv hd hcd) cl hm Fn hr hb (fun σ => passAt tkW σ) ha hc hs hpl).imp fun _ _ _ h => run_methV hC hlk hmn h
theorem m_methV0 (i : Nat) {y : Str} {pl : Sem Bool} (hC : c.cl.ad q = some C) (hmn : mn ∉ c.cl.fl q) (hN : X.N[i]? = some y) (hv : Vis X.env.scope y) (cl : Cls X.K C) (hm : Meth X.K C mn fa) (Fn : FnOk X.prog X.w X.K X.mg X.base (L2.CX X.prog X.w) k fa fd ps (spM X.K c.cl [true] 1 F)) (hr : Room k X.A) (tkW : Takes X c.W) (hb : Binds X.K fd ps [])
    (hc : eval (.Call (.Attribute (.Name y p) mn apos) [] [] pos) X.env = (do
      let ov ← eval (.Name y p) X.env
      standAt apos.atName
      let (f, first) ← holding [ov] (getMethod ov mn pl)
      callWith pos f first (backTo pos (starEach [] X.env)) (backToKw pos (keywordEach [] X.env))) := by rfl)
    (hd : (y == ("__debug__" : Str)) = false := by decide) (hcd : (y == ("__classdict__" : Str)) = false := by decide) :
    PE X (.Call (.Attribute (.Name y p) mn apos) [] [] pos) (tM X.K c (eMethV i q F [] aNil)) := (pe_methSS0 (pe_var hN hv hd hcd) cl hm Fn hr hb (fun σ => passAt tkW σ) hc).imp fun σ H Q h => by
  obtain ⟨v, e0, p, dx, fs, e1, e2, e3, z⟩ := run_methV (mn := mn) (n := 1) (tk := []) hC rfl hmn h
  exact ⟨v, e0, p, dx, fs, e1, e2, e3, nilA z⟩
end
end Pm

namespace Pm
open PySem PySem.Spec PyProof.Rows L2
section
variable {X : Cx} {c : Cn} {a b e o : Expr} {es : List Expr} {f g h : M D} {pos apos p : Pos} {tk : List (Option Nat)} {m : M (List D)} {x : Str}
/-! ### x[e], x a slot's own thing -/
def hasV (i : Nat) : M Unit := fun env => match getV i env with
  | some _ => .ok () env
  | none => .bad
def peek (i : Nat) (k : D → Option D) : M D := fun env => match getV i env with
  | some d => match k d with
    | some r => .ok r env
    | none => .bad
  | none => .bad
def nO (o : Option D) : Option D := match o with
  | some d => if isO d then none else some d
  | none => none
def eIxV (i : Nat) (g : M D) : M D := bnd (hasV i) fun _ => bnd g fun k => peek i fun d => nO (ixD d k)
theorem Ok.hasV {K : PySem.W.Frag} {σ : Sl} {H : Hp} {tv : List V} {env td : List D} {α : Type} {i : Nat} {k : Unit → M α} {P : α → List D → Prop} (h : Ok K c σ tv td (Pm.bnd (Pm.hasV i) k env) P) (a : A K c σ H tv env td) : (∃ v, σ[i]? = some (some v)) ∧ Ok K c σ tv td (k () env) P := by
  unfold Pm.bnd Pm.hasV at h
  cases q : getV i env with
  | none => simp only [q] at h; exact h.elim
  | some d =>
    simp only [q] at h
    obtain ⟨q1, q2⟩ := getV_some q
    obtain ⟨v, R, f, e, _⟩ := a.slot q1 q2
    exact ⟨⟨v, e⟩, h⟩
theorem Ok.peek {K : PySem.W.Frag} {σ : Sl} {tv : List V} {env td : List D} {i : Nat} {k : D → Option D} {P : D → List D → Prop} (h : Ok K c σ tv td (Pm.peek i k env) P) : ∃ d r, env[i]? = some d ∧ isU d = false ∧ k d = some r ∧ P r env := by
  unfold Pm.peek at h
  cases q : getV i env with
  | none => simp only [q] at h; exact h.elim
  | some d =>
    simp only [q] at h
    obtain ⟨q1, q2⟩ := getV_some q
    cases q3 : k d with
    | none => simp only [q3] at h; exact h.elim
    | some r => simp only [q3] at h; exact ⟨d, r, q1, q2, q3, h⟩
theorem nO_some {o : Option D} {r : D} (h : nO o = some r) : o = some r ∧ isO r = false := by
  cases o with
  | none => cases h
  | some d =>
    simp only [nO] at h
    cases q : isO d with
    | true => simp [q] at h
    | false =>
      simp [q] at h
      subst h
      exact ⟨rfl, q⟩
/-- an item of a slot's list or tuple that needs no footprint -/
theorem A.slotItem {K : PySem.W.Frag} {σ : Sl} {H : Hp} {tv : List V} {env td : List D} {i : Nat} {d r : D} {l : List D} {j : Nat} (a : A K c σ H tv env td) (e : env[i]? = some d) (n : isU d = false) (hs : Pm.seqOf d = some l) (hj : l[j]? = some r) (hr : isO r = false) :
    ∃ pp vs w, σ[i]? = some (some (.ref pp)) ∧ vs.length = l.length ∧ ((Pm.lstOf d = some l ∧ SqL K H pp vs) ∨ (Pm.tupOf d = some l ∧ SqT K H pp vs)) ∧ vs[j]? = some w ∧ A K c σ H (w :: tv) env (r :: td) := by
  obtain ⟨R, fs, ft, S⟩ := a
  obtain ⟨f0, g0, x, e1, p0, h1, k⟩ := RepS.take S.slots e
  obtain ⟨v, rfl, h2⟩ := h1.some_of n
  have fin : ∀ {pp : Addr} {vs : List V} {f : List Addr}, RepL K c.cl R H f vs l → ∃ w, vs[j]? = some w ∧ A K c σ H (w :: tv) env (r :: td) := fun {pp vs f} hh => by
    obtain ⟨f3, w, e3, h8, _⟩ := hh.get hj
    have h9 := h8.fp_nil hr
    subst h9
    exact ⟨w, e3, R, fs, [] ++ ft, S.perm S.slots (RepL.cons h8 S.temps) (.refl _) fun _ _ => rfl⟩
  unfold Pm.seqOf at hs
  cases q : Pm.tupOf d with
  | some l' =>
    rw [q] at hs
    cases hs
    obtain ⟨pp, vs, rfl, h3, _, h4⟩ := h2.tupOf q S.same
    obtain ⟨w, e3, a3⟩ := fin (pp := pp) h4
    exact ⟨pp, vs, w, e1, h4.length, .inr ⟨rfl, h3⟩, e3, a3⟩
  | none =>
    rw [q] at hs
    obtain ⟨pp, vs, f', rfl, h3, h4, _⟩ := h2.lstOf hs S.same
    obtain ⟨w, e3, a3⟩ := fin (pp := pp) h4
    exact ⟨pp, vs, w, e1, h4.length, .inl ⟨hs, h3⟩, e3, a3⟩
theorem m_ixV (i : Nat) (hN : X.N[i]? = some x) (hv : Vis X.env.scope x) (hb : PE X b (tM X.K c g)) (hs : PlainIx b) (hd : (x == ("__debug__" : Str)) = false := by decide) (hcd : (x == ("__classdict__" : Str)) = false := by decide) :
    PE X (.Subscript (.Name x p) b pos) (tM X.K c (eIxV i g)) := (pe_ix ix_seq (pe_var hN hv hd hcd) hb hs).imp fun σ H Q ⟨tv, env, td, a, ok⟩ => by
  obtain ⟨⟨v, hvv⟩, ok1⟩ := ok.hasV a
  refine ⟨v, hvv, tv, env, td, a, ok1.bnd.mono fun k e2 ok2 H2 y a2 => ?_⟩
  obtain ⟨d, r, q1, q2, q3, q⟩ := ok2.peek
  obtain ⟨q4, q5⟩ := nO_some q3
  unfold ixD at q4
  cases k <;> try (simp at q4; done)
  rename_i ii
  have := a2.sv rfl
  subst y
  simp only at q4
  have key : ∀ l, seqOf d = some l → atI l ii = some r → rIx X.K v (.int ii) H2 Q := fun l hl hat => by
    obtain ⟨j, e1, e3⟩ := atI_j hat
    obtain ⟨pp, vs, w, h1, h2, h3, h4, a3⟩ := a2.pop.slotItem q1 q2 hl e3 q5
    rw [hvv] at h1
    cases h1
    rcases h3 with ⟨_, h3⟩ | ⟨_, h3⟩
    · exact .inl ⟨pp, vs, ii, w, rfl, rfl, h3, atI_of e1 h2 h4, q H2 w a3⟩
    · exact .inr (.inl ⟨pp, vs, ii, w, rfl, rfl, h3, atI_of e1 h2 h4, q H2 w a3⟩)
  cases h1 : lstOf d with
  | some l =>
    rw [h1] at q4
    exact key l (by unfold seqOf; cases d <;> simp only [lstOf] at h1 <;> cases h1 <;> rfl) q4
  | none =>
    rw [h1] at q4
    cases h2 : tupOf d with
    | some l =>
      rw [h2] at q4
      exact key l (by unfold seqOf; rw [h2]) q4
    | none =>
      rw [h2] at q4
      cases d <;> try (simp at q4; done)
      rename_i z
      simp only at q4
      by_cases hz : z.length ≤ 16777216
      · rw [if_pos hz] at q4
        cases h3 : atI z.cps.toList ii with
        | none => rw [h3] at q4; cases q4
        | some ch =>
          rw [h3] at q4
          cases q4
          obtain ⟨v', R, f', e1, h5, _⟩ := a2.pop.slot q1 q2
          rw [hvv] at e1
          cases e1
          obtain ⟨rfl, _⟩ := h5.sv (v := .str z) rfl
          exact .inr (.inr ⟨z, ii, ch, rfl, rfl, line_of hz, h3, q H2 _ (a2.pop.push rfl)⟩)
      · rw [if_neg hz] at q4; cases q4
/-! ### a list in a slot is changed: append, pop, [..] = .. -/
def wrL (i : Nat) (k : List D → Option (List D)) : M Unit := fun env => match env[i]? with
  | some (.olst l) => match k l with
    | some l' => .ok () (env.set i (.olst l'))
    | none => .bad
  | _ => .bad
theorem Ok.wrL {K : PySem.W.Frag} {σ : Sl} {tv : List V} {env td : List D} {α : Type} {i : Nat} {k : List D → Option (List D)} {q : Unit → M α} {P : α → List D → Prop} (h : Ok K c σ tv td (Pm.bnd (Pm.wrL i k) q env) P) : ∃ l l', env[i]? = some (.olst l) ∧ k l = some l' ∧ Ok K c σ tv td (q () (env.set i (.olst l'))) P := by
  unfold Pm.bnd Pm.wrL at h
  cases h1 : env[i]? with
  | none => simp only [h1] at h; exact h.elim
  | some d =>
    simp only [h1] at h
    cases d <;> try (exact h.elim)
    rename_i l
    simp only at h
    cases h2 : k l with
    | none => simp only [h2] at h; exact h.elim
    | some l' => simp only [h2] at h; exact ⟨l, l', rfl, h2, h⟩
/-- the write of a list in a slot -/
theorem A.wrLst {K : PySem.W.Frag} {σ : Sl} {H : Hp} {tv : List V} {env td : List D} {i : Nat} {l l' : List D} {pp : Addr} {vs vs' : List V} {ws : List V} {us : List D} (a : A K c σ H (ws ++ tv) env (us ++ td)) (e : env[i]? = some (.olst l)) (hl : ws.length = us.length)
    (hσ : σ[i]? = some (some (.ref pp))) (hH : H pp = some (.lst vs))
    (new : ∀ (R H' : Hp) f g, RepL K c.cl R H' f vs l → RepL K c.cl R H' g ws us → ∃ f1 f2, RepL K c.cl R H' f1 vs' l' ∧ (f1 ++ f2).Perm (f ++ g)) : A K c σ (upd H pp (.lst vs')) tv (env.set i (.olst l')) td := by
  refine A.wr a e rfl rfl rfl hl hσ fun R f g k1 k2 dis ndf ndg live => ?_
  simp only [Rep] at k1
  obtain ⟨p', vs0, f2, ep, k3, rfl, k4⟩ := k1
  cases ep
  rw [hH] at k3
  cases k3
  have nf2 : pp ∉ f2 := (List.nodup_cons.mp ndf).1
  have ng : pp ∉ g := fun z => dis pp List.mem_cons_self pp z rfl
  have m1 := RepL.mono (H' := upd H pp (.lst vs')) (Same.refl R) _ (fun b hb => upd_ne (fun z => nf2 (z ▸ hb))) k4
  have m2 := RepL.mono (H' := upd H pp (.lst vs')) (Same.refl R) _ (fun b hb => upd_ne (fun z => ng (z ▸ hb))) k2
  obtain ⟨f3, f4, k5, pm⟩ := new R _ f2 g m1 m2
  refine ⟨List.mem_cons_self, pp :: f3, f4, ?_, by simpa using List.Perm.cons pp pm⟩
  simp only [Rep]
  exact ⟨pp, vs', f3, rfl, upd_same, rfl, k5⟩
theorem A.lstAt {K : PySem.W.Frag} {σ : Sl} {H : Hp} {tv : List V} {env td : List D} {i : Nat} {l : List D} (a : A K c σ H tv env td) (e : env[i]? = some (.olst l)) : ∃ pp vs, σ[i]? = some (some (.ref pp)) ∧ H pp = some (.lst vs) ∧ vs.length = l.length := by
  obtain ⟨v, R, f, e1, h1, s⟩ := a.slot e rfl
  simp only [Rep] at h1
  obtain ⟨pp, vs, f', rfl, h2, _, h3⟩ := h1
  exact ⟨pp, vs, e1, h2, h3.length⟩
def appK (d : D) (l : List D) : Option (List D) := if l.length < 16777216 then some (l ++ [d]) else none
def eApp (i : Nat) (g : M D) : M D := bnd (wrL i some) fun _ => bnd g fun d => bnd (wrL i (appK d)) fun _ => ret .non
theorem tyL {K : PySem.W.Frag} {H : Hp} {pp : Addr} {vs : List V} (h : H pp = some (.lst vs)) : tyV K "list" (.ref pp) H := Or.inl ⟨rfl, _, SqL.of h⟩
theorem Ok.wrS {K : PySem.W.Frag} {σ : Sl} {tv : List V} {env td : List D} {α : Type} {i : Nat} {q : Unit → M α} {P : α → List D → Prop} (h : Ok K c σ tv td (Pm.bnd (Pm.wrL i some) q env) P) : ∃ l, env[i]? = some (.olst l) ∧ Ok K c σ tv td (q () env) P := by
  obtain ⟨l, l', h1, h2, h3⟩ := h.wrL
  cases h2
  rw [set_self h1] at h3
  exact ⟨l, h1, h3⟩
theorem m_append (i : Nat) (hN : X.N[i]? = some x) (hv : Vis X.env.scope x) (he : PE X e (tM X.K c g)) (hd : (x == ("__debug__" : Str)) = false := by decide) (hcd : (x == ("__classdict__" : Str)) = false := by decide)
    (hbase : attributeBase (.Name x p) "append" X.env (eval (.Name x p) X.env) = eval (.Name x p) X.env := by rfl)
    (hfew : ((backTo pos (starEach [e] X.env)).all (fun x => !x.1) && (backToKw pos (keywordEach [] X.env)).all (fun x => x.1.isSome)
      && decide ([e].length + ([] : List Keyword).length + (if ([] : List Keyword).isEmpty then 0 else 1) < 30)) = true := by rfl)
    (hline : (apos.endLine == pos.line) = true := by rfl) (hs : starEach [e] X.env = (false, eval e X.env) :: starEach [] X.env := by rfl) (hplain : (backTo pos (starEach [] X.env)).any (·.1) = false := by rfl) : PE X (.Call (.Attribute (.Name x p) "append" apos) [e] [] pos) (tM X.K c (eApp i g)) :=
  (pe_bm PySem.F.plainAttrs_list PySem.F.slot_list_append PySem.F.type_list_append mt_append (pe_var hN hv hd hcd) (pa_cons he pa_nil hs) hbase hfew hline hs hplain).imp fun σ H Q ⟨tv, env, td, a, ok⟩ => by
    obtain ⟨l, h1, ok1⟩ := ok.wrS
    obtain ⟨pp, vs, e1, h2, h3⟩ := a.lstAt h1
    refine ⟨_, e1, tyL h2, tv, env, td, a, ok1.bnd.mono fun d e2 ok2 H2 y a2 => ?_⟩
    obtain ⟨l2, l3, h4, h5, ok3⟩ := ok2.wrL
    obtain ⟨pp', vs2, e3, h6, h7⟩ := a2.lstAt h4
    rw [e1] at e3
    cases e3
    unfold appK at h5
    by_cases hz : l2.length < 16777216
    · rw [if_pos hz] at h5
      cases h5
      refine ⟨pp, vs2, y, rfl, rfl, h6, by rw [h7, sizeLine_eq]; exact hz, ok3 _ _ ((A.wrLst (ws := [y]) (us := [d]) a2 h4 rfl e1 h6 fun R H' f g k1 k2 => ?_).push rfl)⟩
      obtain ⟨ga, gb, rfl, k3, k4⟩ := k2.inv
      obtain ⟨rfl, _⟩ := RepL.nil_iff.mp k4
      exact ⟨f ++ (ga ++ []), [], by rw [List.append_nil]; exact k1.snoc k3, by simp⟩
    · rw [if_neg hz] at h5; cases h5
def setK (d k : D) (l : List D) : Option (List D) := match k with
  | .int i => match ixN l.length i with
    | some j => some (l.set j d)
    | none => none
  | _ => none
def sIxSet (i : Nat) (f g : M D) : M Fl := bnd f fun d => bnd (wrL i some) fun _ => bnd g fun k => bnd (wrL i (setK d k)) fun _ => ret .nx
theorem s_setIx (i : Nat) {pos' : Pos} (hN : X.N[i]? = some x) (hv : Vis X.env.scope x) (he : PE X e (tM X.K c f)) (hb : PE X b (tM X.K c g))
    (ha : ∀ v, assign (.Subscript (.Name x p) b pos') X.env v = (do
      let ov ← holding [v] (eval (.Name x p) X.env)
      let iv ← holding [v, ov] (eval b X.env)
      standAt pos'
      holding [v, ov, iv] (setItem ov iv v)
      release [v, ov, iv] []) := by intro _; rfl)
    (hs : swapsWithSole [.Subscript (.Name x p) b pos'] e pos.line X.env = pure false := by rfl) (hw : swappedStores [.Subscript (.Name x p) b pos'] e X.env = pure none := by rfl)
    (h1 : (assignEach [.Subscript (.Name x p) b pos'] X.env).map (·.2) = [assign (.Subscript (.Name x p) b pos') X.env] := by rfl) (hd : (x == ("__debug__" : Str)) = false := by decide) (hcd : (x == ("__classdict__" : Str)) = false := by decide) :
    PS X (.Assign [.Subscript (.Name x p) b pos'] e pos) (tS X.K c (sIxSet i f g)) := (ps_asg he (pg_sub (pe_var hN hv hd hcd) hb set_list ha) hs hw h1).imp fun D σ H ⟨tv, env, td, a, ok⟩ => by
  refine ⟨tv, env, td, a, (ok.bnd σ).mono fun d e1 ok1 H1 v a1 => ?_⟩
  obtain ⟨l, h2, ok2⟩ : ∃ l, e1[i]? = some (.olst l) ∧ OkS X.K c tv td D (bnd g (fun k => bnd (wrL i (setK d k)) fun _ => ret .nx) e1) := by
    unfold bnd wrL at ok1
    cases q : e1[i]? with
    | none => simp only [q] at ok1; exact ok1.elim
    | some d0 =>
      simp only [q] at ok1
      cases d0 <;> try (exact ok1.elim)
      rename_i l
      simp only [set_self q] at ok1
      exact ⟨l, rfl, ok1⟩
  obtain ⟨pp, vs, e2, h3, h4⟩ := a1.lstAt h2
  refine ⟨_, e2, v :: tv, e1, d :: td, a1, ((ok2.bnd σ).over1).mono fun k e3 ok3 H2 y a2 => ?_⟩
  obtain ⟨l2, l3, h5, h6, ok4⟩ : ∃ l2 l3, e3[i]? = some (.olst l2) ∧ setK d k l2 = some l3 ∧ OkS X.K c tv td D (ret Fl.nx (e3.set i (.olst l3))) := by
    unfold bnd wrL at ok3
    cases q : e3[i]? with
    | none => simp only [q] at ok3; exact ok3.elim
    | some d0 =>
      simp only [q] at ok3
      cases d0 <;> try (exact ok3.elim)
      rename_i l2
      simp only at ok3
      cases q2 : setK d k l2 with
      | none => simp only [q2] at ok3; exact ok3.elim
      | some l3 => simp only [q2] at ok3; exact ⟨l2, l3, rfl, q2, ok3⟩
  obtain ⟨pp', vs2, e4, h7, h8⟩ := a2.lstAt h5
  rw [e2] at e4
  cases e4
  unfold setK at h6
  cases k <;> try (cases h6; done)
  rename_i ii
  have := a2.sv rfl
  subst y
  simp only at h6
  cases h9 : ixN l2.length ii with
  | none => rw [h9] at h6; cases h6
  | some j =>
    rw [h9] at h6
    cases h6
    refine ⟨pp, vs2, ii, j, rfl, rfl, h7, by rw [h8]; exact h9, ok4 σ _ (A.wrLst (ws := [v]) (us := [d]) a2.pop h5 rfl e2 h7 fun R H' f g k1 k2 => ?_)⟩
    obtain ⟨ga, gb, rfl, k3, k4⟩ := k2.inv
    obtain ⟨rfl, _⟩ := RepL.nil_iff.mp k4
    rw [List.append_nil]
    exact RepL.set k1 (ixN_seq h9).2.1 k3
end
end Pm

namespace Pm
open PySem PySem.Spec PyProof.Rows L2
/-! ### == at any depth -/
mutual
def toPy : D → Option PyData
  | .non => some .none
  | .bl b => some (.bool b)
  | .int i => some (.int i)
  | .str s => some (.str s)
  | .tup l => (toPyL l).map .tuple
  | .otup l => (toPyL l).map .tuple
  | .lst l => (toPyL l).map .list
  | .olst l => (toPyL l).map .list
  | _ => none
def toPyL : List D → Option (List PyData)
  | [] => some []
  | d :: ds => match toPy d, toPyL ds with
    | some x, some xs => some (x :: xs)
    | _, _ => none
end
mutual
def depD : D → Nat
  | .tup l => depL l + 1
  | .otup l => depL l + 1
  | .lst l => depL l + 1
  | .olst l => depL l + 1
  | _ => 0
def depL : List D → Nat
  | [] => 0
  | d :: ds => max (depD d) (depL ds)
end
mutual
/-- Python's ==, on None, bools, ints, texts, tuples, lists -/
def eqv : D → D → Bool
  | .non, e => match e with
    | .non => true
    | _ => false
  | .bl a, e => match e with
    | .bl b => a == b
    | .int j => (if a then 1 else 0) == j
    | _ => false
  | .int i, e => match e with
    | .int j => i == j
    | .bl b => i == (if b then 1 else 0)
    | _ => false
  | .str x, e => match e with
    | .str y => x == y
    | _ => false
  | .tup l, e => match tupOf e with
    | some m => eqvL l m
    | none => false
  | .otup l, e => match tupOf e with
    | some m => eqvL l m
    | none => false
  | .lst l, e => match lstOf e with
    | some m => eqvL l m
    | none => false
  | .olst l, e => match lstOf e with
    | some m => eqvL l m
    | none => false
  | _, _ => false
def eqvL : List D → List D → Bool
  | [], [] => true
  | x :: xs, y :: ys => eqv x y && eqvL xs ys
  | [], _ :: _ => false
  | _ :: _, [] => false
end
theorem toPyL_cons {d : D} {ds : List D} {z : List PyData} (h : toPyL (d :: ds) = some z) : ∃ x xs, toPy d = some x ∧ toPyL ds = some xs ∧ z = x :: xs := by
  simp only [toPyL] at h
  cases h1 : toPy d with
  | none => rw [h1] at h; cases h
  | some x =>
    cases h2 : toPyL ds with
    | none => rw [h1, h2] at h; cases h
    | some xs => rw [h1, h2] at h; cases h; exact ⟨x, xs, rfl, rfl, rfl⟩
theorem map_some {α β : Type} {f : α → β} {o : Option α} {z : β} (h : o.map f = some z) : ∃ x, o = some x ∧ f x = z := by
  cases o with
  | none => cases h
  | some x => exact ⟨x, rfl, by simpa using h⟩
theorem toPy_tup {d : D} {l : List D} (h : tupOf d = some l) : toPy d = (toPyL l).map .tuple := by
  cases d <;> simp only [tupOf] at h <;> cases h <;> simp only [toPy]
theorem toPy_lst {d : D} {l : List D} (h : lstOf d = some l) : toPy d = (toPyL l).map .list := by
  cases d <;> simp only [lstOf] at h <;> cases h <;> simp only [toPy]
mutual
theorem eqv_ok : ∀ (d e : D) {x y : PyData}, toPy d = some x → toPy e = some y → PyData.eqv x y = eqv d e
  | .non, e, x, y, h, h2 => by simp only [toPy] at h; cases h; cases e <;> simp only [toPy] at h2 <;> first | (cases h2; simp [PyData.eqv, eqv]; done) | (obtain ⟨z, _, rfl⟩ := map_some h2; simp [PyData.eqv, eqv]; done) | (cases h2; done)
  | .bl b, e, x, y, h, h2 => by simp only [toPy] at h; cases h; cases e <;> simp only [toPy] at h2 <;> first | (cases h2; simp [PyData.eqv, eqv]; done) | (obtain ⟨z, _, rfl⟩ := map_some h2; simp [PyData.eqv, eqv]; done) | (cases h2; done)
  | .int i, e, x, y, h, h2 => by simp only [toPy] at h; cases h; cases e <;> simp only [toPy] at h2 <;> first | (cases h2; simp [PyData.eqv, eqv]; done) | (obtain ⟨z, _, rfl⟩ := map_some h2; simp [PyData.eqv, eqv]; done) | (cases h2; done)
  | .str s, e, x, y, h, h2 => by simp only [toPy] at h; cases h; cases e <;> simp only [toPy] at h2 <;> first | (cases h2; simp [PyData.eqv, eqv]; done) | (obtain ⟨z, _, rfl⟩ := map_some h2; simp [PyData.eqv, eqv]; done) | (cases h2; done)
  | .tup l, e, x, y, h, h2 => by
    simp only [toPy] at h
    obtain ⟨z, h3, rfl⟩ := map_some h
    simp only [eqv]
    cases q : tupOf e with
    | some m =>
      rw [toPy_tup q] at h2
      obtain ⟨w, h4, rfl⟩ := map_some h2
      simp only [PyData.eqv]
      exact eqvL_ok l m h3 h4
    | none =>
      cases e <;> simp only [tupOf] at q <;> simp only [toPy] at h2 <;> first | (cases q; done) | (cases h2; simp [PyData.eqv]; done) | (obtain ⟨z, _, rfl⟩ := map_some h2; simp [PyData.eqv]; done) | (cases h2; done)
  | .otup l, e, x, y, h, h2 => by
    simp only [toPy] at h
    obtain ⟨z, h3, rfl⟩ := map_some h
    simp only [eqv]
    cases q : tupOf e with
    | some m =>
      rw [toPy_tup q] at h2
      obtain ⟨w, h4, rfl⟩ := map_some h2
      simp only [PyData.eqv]
      exact eqvL_ok l m h3 h4
    | none =>
      cases e <;> simp only [tupOf] at q <;> simp only [toPy] at h2 <;> first | (cases q; done) | (cases h2; simp [PyData.eqv]; done) | (obtain ⟨z, _, rfl⟩ := map_some h2; simp [PyData.eqv]; done) | (cases h2; done)
  | .lst l, e, x, y, h, h2 => by
    simp only [toPy] at h
    obtain ⟨z, h3, rfl⟩ := map_some h
    simp only [eqv]
    cases q : lstOf e with
    | some m =>
      rw [toPy_lst q] at h2
      obtain ⟨w, h4, rfl⟩ := map_some h2
      simp only [PyData.eqv]
      exact eqvL_ok l m h3 h4
    | none =>
      cases e <;> simp only [lstOf] at q <;> simp only [toPy] at h2 <;> first | (cases q; done) | (cases h2; simp [PyData.eqv]; done) | (obtain ⟨z, _, rfl⟩ := map_some h2; simp [PyData.eqv]; done) | (cases h2; done)
  | .olst l, e, x, y, h, h2 => by
    simp only [toPy] at h
    obtain ⟨z, h3, rfl⟩ := map_some h
    simp only [eqv]
    cases q : lstOf e with
    | some m =>
      rw [toPy_lst q] at h2
      obtain ⟨w, h4, rfl⟩ := map_some h2
      simp only [PyData.eqv]
      exact eqvL_ok l m h3 h4
    | none =>
      cases e <;> simp only [lstOf] at q <;> simp only [toPy] at h2 <;> first | (cases q; done) | (cases h2; simp [PyData.eqv]; done) | (obtain ⟨z, _, rfl⟩ := map_some h2; simp [PyData.eqv]; done) | (cases h2; done)
  | .un, _, _, _, h, _ => by simp only [toPy] at h; cases h
  | .ins _ _, _, _, _, h, _ => by simp only [toPy] at h; cases h
  | .oins _ _, _, _, _, h, _ => by simp only [toPy] at h; cases h
  | .dct _ _, _, _, _, h, _ => by simp only [toPy] at h; cases h
  | .odct _ _, _, _, _, h, _ => by simp only [toPy] at h; cases h
  | .xd _ _, _, _, _, h, _ => by simp only [toPy] at h; cases h
theorem eqvL_ok : ∀ (l m : List D) {x y : List PyData}, toPyL l = some x → toPyL m = some y → PyData.eqvAll x y = eqvL l m
  | [], [], x, y, h, h2 => by simp only [toPyL] at h h2; cases h; cases h2; simp [PyData.eqvAll, eqvL]
  | [], e :: m, x, y, h, h2 => by
    simp only [toPyL] at h; cases h
    obtain ⟨a, b, _, _, rfl⟩ := toPyL_cons h2
    simp [PyData.eqvAll, eqvL]
  | d :: l, [], x, y, h, h2 => by
    simp only [toPyL] at h2; cases h2
    obtain ⟨a, b, _, _, rfl⟩ := toPyL_cons h
    simp [PyData.eqvAll, eqvL]
  | d :: l, e :: m, x, y, h, h2 => by
    obtain ⟨a, b, h3, h4, rfl⟩ := toPyL_cons h
    obtain ⟨a', b', h5, h6, rfl⟩ := toPyL_cons h2
    simp only [PyData.eqvAll, eqvL]
    rw [eqv_ok d e h3 h5, eqvL_ok l m h4 h6]
end
mutual
theorem toPy_plain : ∀ (d : D) {x : PyData}, toPy d = some x → x.plain = true ∧ x.depth = depD d
  | .non, _, h => by simp only [toPy] at h; cases h; simp [PyData.plain, PyData.depth, depD]
  | .bl _, _, h => by simp only [toPy] at h; cases h; simp [PyData.plain, PyData.depth, depD]
  | .int _, _, h => by simp only [toPy] at h; cases h; simp [PyData.plain, PyData.depth, depD]
  | .str _, _, h => by simp only [toPy] at h; cases h; simp [PyData.plain, PyData.depth, depD]
  | .tup l, _, h => by simp only [toPy] at h; obtain ⟨z, h3, rfl⟩ := map_some h; have := toPyL_plain l h3; simp [PyData.plain, PyData.depth, depD, this]
  | .otup l, _, h => by simp only [toPy] at h; obtain ⟨z, h3, rfl⟩ := map_some h; have := toPyL_plain l h3; simp [PyData.plain, PyData.depth, depD, this]
  | .lst l, _, h => by simp only [toPy] at h; obtain ⟨z, h3, rfl⟩ := map_some h; have := toPyL_plain l h3; simp [PyData.plain, PyData.depth, depD, this]
  | .olst l, _, h => by simp only [toPy] at h; obtain ⟨z, h3, rfl⟩ := map_some h; have := toPyL_plain l h3; simp [PyData.plain, PyData.depth, depD, this]
  | .un, _, h => by simp only [toPy] at h; cases h
  | .ins _ _, _, h => by simp only [toPy] at h; cases h
  | .oins _ _, _, h => by simp only [toPy] at h; cases h
  | .dct _ _, _, h => by simp only [toPy] at h; cases h
  | .odct _ _, _, h => by simp only [toPy] at h; cases h
  | .xd _ _, _, h => by simp only [toPy] at h; cases h
theorem toPyL_plain : ∀ (l : List D) {x : List PyData}, toPyL l = some x → PyData.plainAll x = true ∧ PyData.depthAll x = depL l
  | [], _, h => by simp only [toPyL] at h; cases h; simp [PyData.plainAll, PyData.depthAll, depL]
  | d :: l, _, h => by
    obtain ⟨a, b, h3, h4, rfl⟩ := toPyL_cons h
    have h5 := toPy_plain d h3
    have h6 := toPyL_plain l h4
    simp [PyData.plainAll, PyData.depthAll, depL, h5, h6]
end
mutual
theorem rep_dp {K : PySem.W.Frag} {cl : ClT} {R H : Hp} (s : Same R H) : ∀ (d : D) {f : List Addr} {v : V} {x : PyData}, Rep K cl R H f v d → toPy d = some x → Dp K H v x
  | .non, _, _, _, h, e => by simp only [toPy] at e; cases e; simp only [Rep] at h; rw [h.2]; exact .non
  | .bl _, _, _, _, h, e => by simp only [toPy] at e; cases e; simp only [Rep] at h; rw [h.2]; exact .bl _
  | .int _, _, _, _, h, e => by simp only [toPy] at e; cases e; simp only [Rep] at h; rw [h.2]; exact .int _
  | .str _, _, _, _, h, e => by simp only [toPy] at e; cases e; simp only [Rep] at h; rw [h.2]; exact .str _
  | .tup l, _, _, _, h, e => by
    simp only [toPy] at e
    obtain ⟨z, h3, rfl⟩ := map_some e
    simp only [Rep] at h
    obtain ⟨_, a, vs, rfl, h1, h2⟩ := h
    exact .tup (SqT.mono h1 s) (repL_dp s l h2 h3)
  | .otup l, _, _, _, h, e => by
    simp only [toPy] at e
    obtain ⟨z, h3, rfl⟩ := map_some e
    simp only [Rep] at h
    obtain ⟨a, vs, rfl, h1, h2⟩ := h
    exact .tup (SqT.mono h1 s) (repL_dp s l h2 h3)
  | .lst l, _, _, _, h, e => by
    simp only [toPy] at e
    obtain ⟨z, h3, rfl⟩ := map_some e
    simp only [Rep] at h
    obtain ⟨_, a, vs, rfl, h1, h2⟩ := h
    exact .lst (s.seq h1) (repL_dp s l h2 h3)
  | .olst l, _, _, _, h, e => by
    simp only [toPy] at e
    obtain ⟨z, h3, rfl⟩ := map_some e
    simp only [Rep] at h
    obtain ⟨a, vs, f, rfl, h1, _, h2⟩ := h
    exact .lst (SqL.of h1) (repL_dp s l h2 h3)
  | .un, _, _, _, _, e => by simp only [toPy] at e; cases e
  | .ins _ _, _, _, _, _, e => by simp only [toPy] at e; cases e
  | .oins _ _, _, _, _, _, e => by simp only [toPy] at e; cases e
  | .dct _ _, _, _, _, _, e => by simp only [toPy] at e; cases e
  | .odct _ _, _, _, _, _, e => by simp only [toPy] at e; cases e
  | .xd _ _, _, _, _, _, e => by simp only [toPy] at e; cases e
theorem repL_dp {K : PySem.W.Frag} {cl : ClT} {R H : Hp} (s : Same R H) : ∀ (l : List D) {f : List Addr} {vs : List V} {x : List PyData}, RepL K cl R H f vs l → toPyL l = some x → DpAll K H vs x
  | [], _, _, _, h, e => by simp only [toPyL] at e; cases e; rw [(RepL.nil_iff.mp h).2]; exact .nil
  | d :: l, _, _, _, h, e => by
    obtain ⟨a, b, h3, h4, rfl⟩ := toPyL_cons e
    obtain ⟨f, g, x, xs, rfl, rfl, h1, h2⟩ := RepL.cons_iff.mp h
    exact .cons (rep_dp s d h1 h3) (repL_dp s l h2 h4)
end
section
variable {X : Cx}
def rEqP (K : PySem.W.Frag) : R2 := fun x y H Q => ∃ d e, Dp K H x d ∧ Dp K H y e ∧ d.plain = true ∧ e.plain = true ∧ min d.depth e.depth ≤ 64 ∧ Q (.bl (PyData.eqv d e)) H
def rNeP (K : PySem.W.Frag) : R2 := fun x y H Q => ∃ d e, Dp K H x d ∧ Dp K H y e ∧ d.plain = true ∧ e.plain = true ∧ min d.depth e.depth ≤ 64 ∧ Q (.bl (!PyData.eqv d e)) H
theorem op_eqP (hu : X.A.units + 64 < cLine) : OpR X (compareOp .Eq) (rEqP X.K) := by
  intro pins s σ H x y v u Q I rx ry h
  obtain ⟨d, e, hd, he, sd, se, hm, q⟩ := h
  obtain ⟨as, r1⟩ := Dp.reads I d x v hd rx
  obtain ⟨bs, r2⟩ := Dp.reads I e y u he ry
  exact SeqAt.eq_plain r1 r2 sd se (by omega) ⟨.bl _, H, I, rfl, q⟩
theorem op_neP (hu : X.A.units + 64 < cLine) : OpR X (compareOp .NotEq) (rNeP X.K) := by
  intro pins s σ H x y v u Q I rx ry h
  obtain ⟨d, e, hd, he, sd, se, hm, q⟩ := h
  obtain ⟨as, r1⟩ := Dp.reads I d x v hd rx
  obtain ⟨bs, r2⟩ := Dp.reads I e y u he ry
  exact SeqAt.ne_plain r1 r2 sd se (by omega) ⟨.bl _, H, I, rfl, q⟩
def eqD (d e : D) : Option D := if (toPy d).isSome ∧ (toPy e).isSome ∧ min (depD d) (depD e) ≤ 64 then some (.bl (eqv d e)) else none
def neD (d e : D) : Option D := if (toPy d).isSome ∧ (toPy e).isSome ∧ min (depD d) (depD e) ≤ 64 then some (.bl (!eqv d e)) else none
theorem A.two {K : PySem.W.Frag} {c : Cn} {σ : Sl} {H : Hp} {tv : List V} {env td : List D} {x y : V} {d e : D} (a : A K c σ H (y :: x :: tv) env (e :: d :: td)) : ∃ R f g, Rep K c.cl R H f x d ∧ Rep K c.cl R H g y e ∧ Same R H := by
  obtain ⟨R, fs, ft, S⟩ := a
  obtain ⟨f, g, rfl, h1, h2⟩ := S.temps.inv
  obtain ⟨f2, g2, rfl, h3, h4⟩ := h2.inv
  exact ⟨R, f2, f, h3, h1, S.same⟩
theorem mI_eq {K : PySem.W.Frag} : OpM K (rEqP K) eqD := by
  intro c σ H tv env td x y d1 d2 d Q a e q
  unfold eqD at e
  split at e
  · rename_i h
    obtain ⟨h1, h2, h3⟩ := h
    cases e
    obtain ⟨p1, e1⟩ := Option.isSome_iff_exists.mp h1
    obtain ⟨p2, e2⟩ := Option.isSome_iff_exists.mp h2
    obtain ⟨R, f, g, r1, r2, s⟩ := a.two
    have t1 := toPy_plain d1 e1
    have t2 := toPy_plain d2 e2
    refine ⟨p1, p2, rep_dp s d1 r1 e1, rep_dp s d2 r2 e2, t1.1, t2.1, by rw [t1.2, t2.2]; exact h3, ?_⟩
    rw [eqv_ok d1 d2 e1 e2]
    exact q H _ (a.pop.pop.push rfl)
  · cases e
theorem mI_ne {K : PySem.W.Frag} : OpM K (rNeP K) neD := by
  intro c σ H tv env td x y d1 d2 d Q a e q
  unfold neD at e
  split at e
  · rename_i h
    obtain ⟨h1, h2, h3⟩ := h
    cases e
    obtain ⟨p1, e1⟩ := Option.isSome_iff_exists.mp h1
    obtain ⟨p2, e2⟩ := Option.isSome_iff_exists.mp h2
    obtain ⟨R, f, g, r1, r2, s⟩ := a.two
    have t1 := toPy_plain d1 e1
    have t2 := toPy_plain d2 e2
    refine ⟨p1, p2, rep_dp s d1 r1 e1, rep_dp s d2 r2 e2, t1.1, t2.1, by rw [t1.2, t2.2]; exact h3, ?_⟩
    rw [eqv_ok d1 d2 e1 e2]
    exact q H _ (a.pop.pop.push rfl)
  · cases e
/-! ### in, over data -/
def rInP (K : PySem.W.Frag) (neg : Bool) : R2 := fun x y H Q => ∃ d p xs, Dp K H x d ∧ (Dp K H y (.list xs) ∨ Dp K H y (.tuple xs)) ∧ y = .ref p ∧ d.plain = true ∧ PyData.plainAll xs = true ∧ min (PyData.depthAll xs) d.depth ≤ 60 ∧ Q (.bl (if neg then !(xs.any fun z => PyData.eqv z d) else xs.any fun z => PyData.eqv z d)) H
theorem op_inP (hu : X.A.units + 64 < cLine) : OpR X (compareOp .In) (rInP X.K false) := by
  intro pins s σ H x y v u Q I rx ry h
  obtain ⟨d, p, xs, hd, he, _, sd, se, hm, q⟩ := h
  obtain ⟨as, r1⟩ := Dp.reads I d x v hd rx
  rcases he with he | he
  · obtain ⟨bs, r2⟩ := Dp.reads I _ y u he ry
    exact SeqAt.in_list_data r2 r1 se sd (by omega) ⟨.bl _, H, I, rfl, q⟩
  · obtain ⟨bs, r2⟩ := Dp.reads I _ y u he ry
    exact SeqAt.in_tuple_data r2 r1 se sd (by omega) ⟨.bl _, H, I, rfl, q⟩
theorem op_notInP (hu : X.A.units + 64 < cLine) : OpR X (compareOp .NotIn) (rInP X.K true) := by
  intro pins s σ H x y v u Q I rx ry h
  obtain ⟨d, p, xs, hd, he, _, sd, se, hm, q⟩ := h
  obtain ⟨as, r1⟩ := Dp.reads I d x v hd rx
  rcases he with he | he
  · obtain ⟨bs, r2⟩ := Dp.reads I _ y u he ry
    exact SeqAt.notIn_list_data r2 r1 se sd (by omega) ⟨.bl _, H, I, rfl, q⟩
  · obtain ⟨bs, r2⟩ := Dp.reads I _ y u he ry
    exact SeqAt.notIn_tuple_data r2 r1 se sd (by omega) ⟨.bl _, H, I, rfl, q⟩
def inB (d e : D) : Option Bool := match seqOf e with
  | some l => if (toPy d).isSome ∧ (toPyL l).isSome ∧ min (depL l) (depD d) ≤ 60 then some (l.any fun z => eqv z d) else none
  | none => none
def inD (d e : D) : Option D := (inB d e).map .bl
def notInD (d e : D) : Option D := (inB d e).map fun b => .bl (!b)
theorem any_ok {d : D} {x : PyData} (h : toPy d = some x) : ∀ (l : List D) {xs : List PyData}, toPyL l = some xs → (xs.any fun z => PyData.eqv z x) = l.any fun z => eqv z d
  | [], _, e => by simp only [toPyL] at e; cases e; rfl
  | d0 :: l, _, e => by
    obtain ⟨a, b, h3, h4, rfl⟩ := toPyL_cons e
    simp only [List.any_cons]
    rw [eqv_ok d0 d h3 h, any_ok h l h4]
theorem inB_ok {K : PySem.W.Frag} {c : Cn} {σ : Sl} {H : Hp} {tv : List V} {env td : List D} {x y : V} {d1 d2 : D} {b : Bool} (a : A K c σ H (y :: x :: tv) env (d2 :: d1 :: td)) (e : inB d1 d2 = some b) :
    ∃ d p xs, Dp K H x d ∧ (Dp K H y (.list xs) ∨ Dp K H y (.tuple xs)) ∧ y = .ref p ∧ d.plain = true ∧ PyData.plainAll xs = true ∧ min (PyData.depthAll xs) d.depth ≤ 60 ∧ (xs.any fun z => PyData.eqv z d) = b := by
  unfold inB at e
  cases q : seqOf d2 with
  | none => rw [q] at e; cases e
  | some l =>
    rw [q] at e
    simp only at e
    split at e
    · rename_i h
      obtain ⟨h1, h2, h3⟩ := h
      cases e
      obtain ⟨p1, e1⟩ := Option.isSome_iff_exists.mp h1
      obtain ⟨p2, e2⟩ := Option.isSome_iff_exists.mp h2
      obtain ⟨R, f, g, r1, r2, s⟩ := a.two
      have t1 := toPy_plain d1 e1
      have t2 := toPyL_plain l e2
      obtain ⟨pp, vs, rfl, _, hh⟩ := A.seqOf (v := y) (tv := x :: tv) a q
      refine ⟨p1, pp, p2, rep_dp s d1 r1 e1, ?_, rfl, t1.1, t2.1, by rw [t1.2, t2.2]; exact h3, any_ok e1 l e2⟩
      rcases hh with ⟨hh, _⟩ | ⟨hh, _⟩
      · exact .inl (rep_dp s d2 r2 (by rw [toPy_lst hh, e2]; rfl))
      · exact .inr (rep_dp s d2 r2 (by rw [toPy_tup hh, e2]; rfl))
    · cases e
theorem mI_in {K : PySem.W.Frag} : OpM K (rInP K false) inD := by
  intro c σ H tv env td x y d1 d2 d Q a e q
  unfold inD at e
  obtain ⟨b, e1, rfl⟩ := map_some e
  obtain ⟨d, p, xs, h1, h2, h3, h4, h5, h6, h7⟩ := inB_ok a e1
  exact ⟨d, p, xs, h1, h2, h3, h4, h5, h6, by simp only [h7]; exact q H _ (a.pop.pop.push rfl)⟩
theorem mI_notIn {K : PySem.W.Frag} : OpM K (rInP K true) notInD := by
  intro c σ H tv env td x y d1 d2 d Q a e q
  unfold notInD at e
  obtain ⟨b, e1, rfl⟩ := map_some e
  obtain ⟨d, p, xs, h1, h2, h3, h4, h5, h6, h7⟩ := inB_ok a e1
  exact ⟨d, p, xs, h1, h2, h3, h4, h5, h6, by simp only [h7]; exact q H _ (a.pop.pop.push rfl)⟩
end
end Pm

namespace Pm
open PySem PySem.Spec PyProof.Rows L2
/-! ### a < b <= c -/
def eChain (op op' : D → D → Option D) (f g h : M D) : M D := bnd f fun a => bnd g fun b => bnd (lft (op a b)) fun t => bnd (lft (toB t)) fun k => if k then bnd h fun w => (if (sv b).isSome then lft (op' b w) else fun _ => .bad) else ret (.bl false)
section
variable {X : Cx} {c : Cn} {a b e o cc : Expr} {es : List Expr} {f g h : M D} {pos p2 : Pos} {tk : List (Option Nat)} {m : M (List D)}
theorem chain {op op' : D → D → Option D} {r r' : R2} (hm : OpM X.K r op) (hm' : OpM X.K r' op') {σ : Sl} {H : Hp} {Q : VK} (hh : tM X.K c (eChain op op' f g h) σ H Q) : tChain r r' (tM X.K c f) (tM X.K c g) (tM X.K c h) σ H Q := by
  obtain ⟨tv, env, td, a, ok⟩ := hh
  refine ⟨tv, env, td, a, ok.bnd.mono fun d1 env1 ok1 H1 x a1 => ⟨x :: tv, env1, d1 :: td, a1, (ok1.bnd.over1).mono fun d2 env2 ok2 H2 y a2 => ?_⟩⟩
  obtain ⟨d, e, ok3⟩ := ok2.lftb
  obtain ⟨k, ek, ok4⟩ := ok3.lftb
  refine hm a2 e fun H3 z a3 => ⟨k, a3.bl ek, ?_⟩
  cases k with
  | false =>
    simp only [Bool.false_eq_true, if_false] at ok4 ⊢
    exact ok4 H3 _ (a3.pop.push rfl)
  | true =>
    simp only [if_true] at ok4 ⊢
    cases hs : sv d2 with
    | none =>
      have ok5 := ok4.bnd
      simp only [hs] at ok5
      refine ⟨tv, env2, td, a3.pop, ok5.mono fun w e3 ok6 => ok6.elim⟩
    | some v2 =>
      have := a2.sv hs
      subst this
      refine ⟨y :: tv, env2, d2 :: td, a3.pop.push hs, (ok4.bnd.over1).mono fun w e3 ok5 H4 w' a4 => ?_⟩
      simp only [hs, Option.isSome_some, if_true] at ok5
      obtain ⟨d', e', q⟩ := ok5.lft
      exact hm' a4 e' q
theorem m_chain {op op' : CmpOp} {r r' : R2} {q q' : D → D → Option D} (ho : OpR X (compareOp op) r) (hm : OpM X.K r q) (ho' : OpR X (compareOp op') r') (hm' : OpM X.K r' q') (ha : PE X a (tM X.K c f)) (hb : PE X b (tM X.K c g)) (hc : PE X cc (tM X.K c h))
    (hk : lastMarks [op, op'] [b, cc] = false := by with_unfolding_all rfl) : PE X (.Compare a [op, op'] [b, cc] pos) (tM X.K c (eChain q q' f g h)) := (pe_chain ho ho' ha hb hc hk).imp fun _ _ _ h => chain hm hm' h
theorem t_chain {op op' : CmpOp} {r r' : R2} {q q' : D → D → Option D} (ho : OpR X (compareOp op) r) (hm : OpM X.K r q) (ho' : OpR X (compareOp op') r') (hm' : OpM X.K r' q') (ha : PE X a (tM X.K c f)) (hb : PE X b (tM X.K c g)) (hc : PE X cc (tM X.K c h))
    (hk : lastMarks [op, op'] [b, cc] = false := by with_unfolding_all rfl) : PT X (.Compare a [op, op'] [b, cc] pos) (tT X.K c (qB (eChain q q' f g h))) := (pt_chain ho ho' ha hb hc hk).imp fun σ H Q h => by
  obtain ⟨tv, env, td, a, ok⟩ := test h
  exact chain hm hm' ⟨tv, env, td, a, ok⟩
/-! ### slices -/
def tO (K : PySem.W.Frag) (c : Cn) (m : M (Option Int)) : TO := fun σ H Q => ∃ tv env td, A K c σ H tv env td ∧ Ok K c σ tv td (m env) fun o e => ∀ H', A K c σ H' tv e td → Q o H'
def toI : D → Option Int
  | .int i => some i
  | _ => none
theorem A.int {K : PySem.W.Frag} {c : Cn} {σ : Sl} {H : Hp} {tv : List V} {env td : List D} {v : V} {d : D} {i : Int} (a : A K c σ H (v :: tv) env (d :: td)) (e : toI d = some i) : v = .int i := by
  cases d <;> simp only [toI] at e <;> cases e
  exact a.sv rfl
def pNo : M (Option Int) := ret none
def pSo (f : M D) : M (Option Int) := bnd f fun d => bnd (lft (toI d)) fun i => ret (some i)
theorem p_none : PO X none (tO X.K c pNo) := ⟨fun pins s σ H Q I h => po_none.run pins s σ H Q I (by obtain ⟨tv, env, td, a, ok⟩ := h; exact ok H a)⟩
theorem p_some (h : PE X e (tM X.K c f)) : PO X (some e) (tO X.K c (pSo f)) := ⟨fun pins s σ H Q I hq => (po_some h).run pins s σ H Q I (by
  obtain ⟨tv, env, td, a, ok⟩ := hq
  exact ⟨tv, env, td, a, ok.bnd.mono fun d e1 ok1 H1 v a1 => by
    obtain ⟨i, ei, ok2⟩ := ok1.lftb
    exact ⟨i, a1.int ei, ok2 H1 a1.pop⟩⟩)⟩
def cutD (l : List D) (lo hi : Option Int) : List D := (l.drop (HT.sIx l.length 0 lo)).take (HT.sIx l.length l.length hi - HT.sIx l.length 0 lo)
def slD (d : D) (lo hi : Option Int) : Option D := match lstOf d with
  | some l => some (.olst (cutD l lo hi))
  | none => match tupOf d with
    | some l => some (mkT (cutD l lo hi))
    | none => match d with
      | .str z => if z.length ≤ 16777216 then some (.str (Txt.slice z lo hi)) else none
      | _ => none
def eSl (f : M D) (lo hi : M (Option Int)) : M D := bnd f fun d => bnd lo fun l => bnd hi fun u => lft (slD d l u)
theorem RepL.cut {K : PySem.W.Frag} {cl : ClT} {R H : Hp} (i k : Nat) {ds : List D} {f : List Addr} {vs : List V} (h : RepL K cl R H f vs ds) : ∃ f1 f2, RepL K cl R H f1 ((vs.drop i).take k) ((ds.drop i).take k) ∧ (f1 ++ f2).Perm f := by
  have hl := h.length
  rw [← List.take_append_drop i ds, ← List.take_append_drop i vs] at h
  obtain ⟨f1, g1, rfl, h1, h2⟩ := h.split (by simp [hl])
  rw [← List.take_append_drop k (ds.drop i), ← List.take_append_drop k (vs.drop i)] at h2
  obtain ⟨f2, g2, rfl, h3, h4⟩ := h2.split (by simp [hl])
  refine ⟨f2, f1 ++ g2, h3, ?_⟩
  exact perm3 f2 f1 g2
theorem A.cut {K : PySem.W.Frag} {c : Cn} {σ : Sl} {H : Hp} {tv vs : List V} {env td ds : List D} (i k : Nat) (a : A K c σ H (vs ++ tv) env (ds ++ td)) (hl : vs.length = ds.length) : A K c σ H ((vs.drop i).take k ++ tv) env ((ds.drop i).take k ++ td) := by
  obtain ⟨R, fs, ft, S⟩ := a
  obtain ⟨f, g, rfl, h1, h2⟩ := S.temps.split hl
  obtain ⟨f1, f2, h3, p⟩ := h1.cut i k
  refine ⟨R, fs, f1 ++ g, S.sub S.slots (h3.append h2) ⟨f2, ?_⟩ fun _ _ => rfl⟩
  rw [List.append_assoc]
  refine List.Perm.append_left _ ?_
  rw [List.append_assoc]
  exact (List.Perm.append_left f1 List.perm_append_comm).trans (by rw [← List.append_assoc]; exact p.append_right g)
theorem cut_all {α : Type} {xs : List α} {i j : Nat} (h1 : i = 0) (h2 : j = xs.length) : (xs.drop i).take (j - i) = xs := by
  subst h1 h2
  simp
theorem m_slice {lo hi : Option Expr} {ml mh : M (Option Int)} (he : PE X e (tM X.K c f)) (hl : PO X lo (tO X.K c ml)) (hu : PO X hi (tO X.K c mh)) : PE X (.Subscript e (.Slice lo hi none p2) pos) (tM X.K c (eSl f ml mh)) :=
  (pe_slice (sl_list.or (sl_tupA.or C8.sl_txt)) he hl hu).imp fun σ H Q ⟨tv, env, td, a, ok⟩ => ⟨tv, env, td, a, ok.bnd.mono fun d e1 ok1 H1 x a1 => ⟨x :: tv, e1, d :: td, a1, (ok1.bnd.over1).mono fun l e2 ok2 H2 a2 => ⟨x :: tv, e2, d :: td, a2, (ok2.bnd.over1).mono fun u e3 ok3 H3 a3 => by
    obtain ⟨r, er, q⟩ := ok3.lft
    unfold slD at er
    cases h1 : lstOf d with
    | some ds =>
      rw [h1] at er
      cases er
      obtain ⟨p, vs, rfl, hs, a4⟩ := a3.lstOf h1
      have hlen : vs.length = ds.length := by have := a4.same_len; have := a3.pop.same_len; simp at *; omega
      refine .inl ⟨p, vs, rfl, hs, fun p' hp' => q _ _ ?_⟩
      have a5 := a4.cut (HT.sIx ds.length 0 l) (HT.sIx ds.length ds.length u - HT.sIx ds.length 0 l) hlen
      have := a5.newL (by simp [hlen]) hp'
      unfold cutV
      rw [hlen]
      exact this
    | none =>
      rw [h1] at er
      simp only at er
      cases h2 : tupOf d with
      | some ds =>
        rw [h2] at er
        cases er
        obtain ⟨p, vs, rfl, hs, a4⟩ := a3.tupOf h2
        have hlen : vs.length = ds.length := by have := a4.same_len; have := a3.pop.same_len; simp at *; omega
        refine .inr (.inl ⟨p, vs, rfl, hs, fun hw => q _ _ ?_, fun hw p' hp' => q _ _ ?_⟩)
        · rw [hlen] at hw
          have : cutD ds l u = ds := cut_all hw.1 hw.2
          rw [this]
          exact a3.sameT h2
        · have a5 := a4.cut (HT.sIx ds.length 0 l) (HT.sIx ds.length ds.length u - HT.sIx ds.length 0 l) hlen
          have := a5.newT (by simp [hlen]) hp'
          unfold cutV
          rw [hlen]
          exact this
      | none =>
        rw [h2] at er
        simp only at er
        cases d <;> try (cases er; done)
        rename_i z
        simp only at er
        by_cases hz : z.length ≤ 16777216
        · rw [if_pos hz] at er
          cases er
          have := a3.sv rfl
          subst this
          exact .inr (.inr ⟨z, rfl, line_of hz, q _ _ (a3.pop.push rfl)⟩)
        · rw [if_neg hz] at er; cases er⟩⟩⟩
def revD : D → Option D := fun d => (lstOf d).map fun l => .olst l.reverse
theorem RepL.rev {K : PySem.W.Frag} {cl : ClT} {R H : Hp} : ∀ {ds : List D} {f : List Addr} {vs : List V}, RepL K cl R H f vs ds → ∃ f1, RepL K cl R H f1 vs.reverse ds.reverse ∧ f1.Perm f
  | [], f, vs, h => by
    obtain ⟨rfl, rfl⟩ := RepL.nil_iff.mp h
    exact ⟨[], RepL.nil_iff.mpr ⟨rfl, rfl⟩, .refl _⟩
  | d :: ds, f, vs, h => by
    obtain ⟨f0, g0, x, xs, rfl, rfl, h1, h2⟩ := RepL.cons_iff.mp h
    obtain ⟨f1, h3, p⟩ := RepL.rev h2
    refine ⟨f1 ++ f0, ?_, (List.perm_append_comm).trans (List.Perm.append_left f0 p)⟩
    simp only [List.reverse_cons]
    exact RepL.snoc h3 h1
theorem m_rev {k : Nat} {p1 p3 : Pos} (he : PE X e (tM X.K c f)) : PE X (.Subscript e (.Slice none none (some (.UnaryOp .USub (.Constant (.int 1) k p1) p2)) p3) pos) (tM X.K c (eUn revD f)) := (pe_revL he).imp fun σ H Q ⟨tv, env, td, a, ok⟩ => ⟨tv, env, td, a, ok.bnd.mono fun d e1 ok1 H1 v a1 => by
  obtain ⟨d', e', q⟩ := ok1.lft
  unfold revD at e'
  cases h1 : lstOf d with
  | none => rw [h1] at e'; cases e'
  | some ds =>
    rw [h1] at e'
    cases e'
    obtain ⟨p, vs, rfl, hs, a4⟩ := a1.lstOf h1
    have hlen : vs.length = ds.length := by have := a4.same_len; have := a1.pop.same_len; simp at *; omega
    refine ⟨p, vs, rfl, hs, fun p' hp' => q _ _ ?_⟩
    obtain ⟨R, fs, ft, S⟩ := a4
    obtain ⟨f0, g0, rfl, h3, h4⟩ := S.temps.split hlen
    obtain ⟨f1, h5, pm⟩ := h3.rev
    have a5 : A X.K c σ H1 (vs.reverse ++ tv) e1 (ds.reverse ++ td) := ⟨R, fs, f1 ++ g0, S.perm S.slots (h5.append h4) (List.Perm.append_left _ (pm.append_right g0)) fun _ _ => rfl⟩
    exact a5.newL (by simp [hlen]) hp'⟩
/-! ### + of anything -/
theorem op_catL : OpR X (binaryOp .Add) (fun x y H Q => ∃ l b xs zs, x = .ref l ∧ y = .ref b ∧ SqL X.K H l xs ∧ SqL X.K H b zs ∧ xs.length + zs.length ≤ sizeLine ∧ ∀ p, H p = none → Q (.ref p) (upd H p (.lst (xs ++ zs)))) := by
  intro pins s σ H x y v u Q I rx ry h
  obtain ⟨l, b, xs, zs, rfl, rfl, hH, hB, hz, q⟩ := h
  cases rx
  cases ry
  obtain ⟨its, r, pl, hl⟩ := I.list hH
  obtain ⟨its2, r2, pl2, hl2⟩ := I.list hB
  have n1 := r.length
  have n2 := r2.length
  obtain ⟨⟨cls, dd, data, sl⟩, n, ho, hc, hd0, hd⟩ := pl
  obtain ⟨⟨cls2, dd2, data2, sl2⟩, n', ho2, hc2, hd02, hd2⟩ := pl2
  simp only at hc hd hc2 hd2
  subst hc hd hc2 hd2
  refine PySem.concat_meets ⟨_, ho, rfl⟩ ⟨_, ho2, rfl⟩ noFill_list_add seq_list_add PySem.F.slot_list_add PySem.F.entry_list_add (PySem.F.args_list_add_2 _ _) (list_addW l b its.toArray its2.toArray n n' dd dd2 sl sl2 (by simp; omega)) ⟨ho, ho2, ?_⟩
  have e : its.toArray ++ its2.toArray = (its ++ its2).toArray := by simp
  rw [e]
  exact ⟨.ref _, _, I.lnew (t' := s.toks) (r.append r2) (by rw [List.length_append]; omega), rfl, q _ I.fresh⟩
def rAdd (K : PySem.W.Frag) : R2 := fun x y H Q => (rI0 (fun i j => .int (i + j)) x y H Q) ∨ (∃ i j, x = .str i ∧ y = .str j ∧ i.length + j.length ≤ sizeLine ∧ Q (.str (i ++ j)) H) ∨
  (∃ l b xs zs, x = .ref l ∧ y = .ref b ∧ SqL K H l xs ∧ SqL K H b zs ∧ xs.length + zs.length ≤ sizeLine ∧ ∀ p, H p = none → Q (.ref p) (upd H p (.lst (xs ++ zs)))) ∨ rCatA K x y H Q
theorem op_addA : OpR X (binaryOp .Add) (rAdd X.K) := op_add.or (op_add_str.or (op_catL.or op_catA))
def addD (d e : D) : Option D := match d, e with
  | .int i, .int j => some (.int (i + j))
  | .str i, .str j => if i.length + j.length ≤ 16777216 then some (.str (i ++ j)) else none
  | d, e => match lstOf d, lstOf e with
    | some l, some m => if l.length + m.length ≤ 16777216 then some (.olst (l ++ m)) else none
    | _, _ => match tupOf d, tupOf e with
      | some l, some m => if l.length + m.length ≤ 16777216 then some (mkT (l ++ m)) else none
      | _, _ => none
theorem A.two_lst {K : PySem.W.Frag} {c : Cn} {σ : Sl} {H : Hp} {tv : List V} {env td : List D} {x y : V} {d e : D} {l m : List D} (a : A K c σ H (y :: x :: tv) env (e :: d :: td)) (h1 : Pm.lstOf d = some l) (h2 : Pm.lstOf e = some m) :
    ∃ p q vs ws, x = .ref p ∧ y = .ref q ∧ SqL K H p vs ∧ SqL K H q ws ∧ vs.length = l.length ∧ ws.length = m.length ∧ A K c σ H ((vs ++ ws) ++ tv) env ((l ++ m) ++ td) := by
  have n0 := a.pop.pop.same_len
  obtain ⟨q, ws, rfl, hq, a1⟩ := a.lstOf h2
  have n1 : ws.length = m.length := by have := a1.same_len; simp at this; omega
  have a2 := a1.rot n1
  obtain ⟨p, vs, rfl, hp, a3⟩ := a2.lstOf h1
  have n2 : vs.length = l.length := by have := a3.same_len; simp at this; omega
  exact ⟨p, q, vs, ws, rfl, rfl, hp, hq, n2, n1, by rw [List.append_assoc, List.append_assoc]; exact a3⟩
theorem A.two_tup {K : PySem.W.Frag} {c : Cn} {σ : Sl} {H : Hp} {tv : List V} {env td : List D} {x y : V} {d e : D} {l m : List D} (a : A K c σ H (y :: x :: tv) env (e :: d :: td)) (h1 : Pm.tupOf d = some l) (h2 : Pm.tupOf e = some m) :
    ∃ p q vs ws, x = .ref p ∧ y = .ref q ∧ SqT K H p vs ∧ SqT K H q ws ∧ vs.length = l.length ∧ ws.length = m.length ∧ A K c σ H ((vs ++ ws) ++ tv) env ((l ++ m) ++ td) := by
  have n0 := a.pop.pop.same_len
  obtain ⟨q, ws, rfl, hq, a1⟩ := a.tupOf h2
  have n1 : ws.length = m.length := by have := a1.same_len; simp at this; omega
  have a2 := a1.rot n1
  obtain ⟨p, vs, rfl, hp, a3⟩ := a2.tupOf h1
  have n2 : vs.length = l.length := by have := a3.same_len; simp at this; omega
  exact ⟨p, q, vs, ws, rfl, rfl, hp, hq, n2, n1, by rw [List.append_assoc, List.append_assoc]; exact a3⟩
theorem addD_seq {c : Cn} {σ : Sl} {H : Hp} {tv : List V} {env td : List D} {x y : V} {d e d' : D} {Q : VK} (a : A X.K c σ H (y :: x :: tv) env (e :: d :: td)) (he : (match lstOf d, lstOf e with
    | some l, some m => if l.length + m.length ≤ 16777216 then some (.olst (l ++ m)) else none
    | _, _ => match tupOf d, tupOf e with
      | some l, some m => if l.length + m.length ≤ 16777216 then some (mkT (l ++ m)) else none
      | _, _ => none) = some d') (q : ∀ H' v, A X.K c σ H' (v :: tv) env (d' :: td) → Q v H') : rAdd X.K x y H Q := by
  cases h1 : lstOf d with
  | some l =>
    cases h2 : lstOf e with
    | some m =>
      simp only [h1, h2] at he
      by_cases hz : l.length + m.length ≤ 16777216
      · rw [if_pos hz] at he
        cases he
        obtain ⟨p, r, vs, ws, rfl, rfl, hp, hq, n1, n2, a1⟩ := a.two_lst h1 h2
        exact .inr (.inr (.inl ⟨p, r, vs, ws, rfl, rfl, hp, hq, by rw [n1, n2]; exact line_of hz, fun p' hp' => q _ _ (a1.newL (by simp [n1, n2]) hp')⟩))
      · rw [if_neg hz] at he; cases he
    | none =>
      simp only [h1, h2] at he
      have : tupOf d = none := by cases d <;> simp only [lstOf] at h1 <;> first | rfl | cases h1
      simp only [this] at he
      cases he
  | none =>
    simp only [h1] at he
    cases h3 : tupOf d with
    | none => simp only [h3] at he; cases he
    | some l =>
      cases h4 : tupOf e with
      | none => simp only [h3, h4] at he; cases he
      | some m =>
        simp only [h3, h4] at he
        by_cases hz : l.length + m.length ≤ 16777216
        · rw [if_pos hz] at he
          cases he
          obtain ⟨p, r, vs, ws, rfl, rfl, hp, hq, n1, n2, a1⟩ := a.two_tup h3 h4
          refine .inr (.inr (.inr ⟨p, r, vs, ws, rfl, rfl, hp, hq, by rw [n1, n2]; exact line_of hz, fun hv => q _ _ ?_, fun hv hw => q _ _ ?_, fun hv hw p' hp' => q _ _ (a1.newT (by simp [n1, n2]) hp')⟩))
          · have : l = [] := List.length_eq_zero_iff.mp (by rw [← n1, hv]; rfl)
            subst this
            have b : A X.K c σ H (V.ref r :: tv) env (e :: td) := A.dropMid (vs := [V.ref p]) (ds := [d]) a rfl
            exact b.sameT h4
          · have : m = [] := List.length_eq_zero_iff.mp (by rw [← n2, hw]; rfl)
            subst this
            rw [List.append_nil]
            exact a.pop.sameT h3
        · rw [if_neg hz] at he; cases he
theorem mI_addA : OpM X.K (rAdd X.K) addD := by
  intro c σ H tv env td x y d1 d2 d Q a e q
  unfold addD at e
  split at e
  · cases e
    have h1 := a.sv2 rfl
    have h2 := a.sv rfl
    subst h1 h2
    exact .inl ⟨_, _, rfl, rfl, q H _ (a.pop.pop.push rfl)⟩
  · rename_i i j
    by_cases hz : i.length + j.length ≤ 16777216
    · rw [if_pos hz] at e
      cases e
      have h1 := a.sv2 rfl
      have h2 := a.sv rfl
      subst h1 h2
      exact .inr (.inl ⟨_, _, rfl, rfl, line_of hz, q H _ (a.pop.pop.push rfl)⟩)
    · rw [if_neg hz] at e; cases e
  · exact addD_seq a e q
/-! ### isinstance -/
def tyS : D → Option String
  | .non => some "NoneType"
  | .bl _ => some "bool"
  | .int _ => some "int"
  | .str _ => some "str"
  | .lst _ | .olst _ => some "list"
  | .tup _ | .otup _ => some "tuple"
  | .dct _ _ | .odct _ _ => some "dict"
  | _ => none
/-- what isinstance says: by the built-in's name, by the own class's number -/
structure TbI where
  b : List (String × Bool)
  c : List (Nat × Bool)
def isiD (tb : TbI) (d : D) : Option Bool := match tyS d with
  | some n => tb.b.lookup n
  | none => match insOf d with
    | some (c, _) => tb.c.lookup c
    | none => none
theorem lookup_mem {α β : Type} [BEq α] [LawfulBEq α] {a : α} {b : β} : ∀ {l : List (α × β)}, l.lookup a = some b → (a, b) ∈ l
  | [], h => by cases h
  | (x, y) :: l, h => by
    rw [List.lookup_cons] at h
    by_cases e : a = x
    · subst e
      simp at h
      subst h
      exact List.mem_cons_self
    · rw [show (a == x) = false by simpa using e] at h
      exact List.mem_cons_of_mem _ (lookup_mem h)
structure IsOk (K : PySem.W.Frag) (cl : ClT) (P : Value → Bool → Prop) (tb : TbI) : Prop where
  b : ∀ p ∈ tb.b, P (.type p.1) p.2
  c : ∀ p ∈ tb.c, ∀ C, cl.ad p.1 = some C → C8.InsC K C ∧ P (.ref C) p.2
theorem SqL.ty {K : PySem.W.Frag} {H : Hp} {p : Addr} {vs : List V} (h : SqL K H p vs) : TyX K H (.ref p) (.type "list") := by
  rcases h with (h | ⟨o, h⟩) | ⟨o, its, n, h1, h2, _⟩
  · exact .base (.lst h)
  · exact .base (.frz h)
  · exact .kList h1 h2
theorem SqT.ty {K : PySem.W.Frag} {H : Hp} {p : Addr} {vs : List V} (h : SqT K H p vs) : TyX K H (.ref p) (.type "tuple") := by
  rcases h with (h | ⟨o, h⟩) | ⟨o, its, n, h1, h2, _⟩
  · exact .base (.tup h)
  · exact .fTuple h
  · exact .kTuple h1 h2
theorem A.tyX {K : PySem.W.Frag} {P : Value → Bool → Prop} {tb : TbI} {c : Cn} {σ : Sl} {H : Hp} {tv : List V} {env td : List D} {v : V} {d : D} {b : Bool} (T : IsOk K c.cl P tb) (a : A K c σ H (v :: tv) env (d :: td)) (e : isiD tb d = some b) : ∃ t, TyX K H v t ∧ P t b := by
  unfold isiD at e
  cases q : tyS d with
  | some n =>
    rw [q] at e
    refine ⟨.type n, ?_, T.b _ (lookup_mem e)⟩
    have hs : ∀ (x : V) (t : String), Pm.sv d = some x → TyOf K H x (.type t) → n = t → TyX K H v (.type n) := fun x t h1 h2 h3 => by
      rw [a.sv h1, h3]
      exact .base h2
    cases d <;> simp only [tyS] at q <;> first | (cases q; done) | cases q
    · exact hs _ _ rfl .non rfl
    · exact hs _ _ rfl (.bl _) rfl
    · exact hs _ _ rfl (.int _) rfl
    · exact hs _ _ rfl (.str _) rfl
    · obtain ⟨p, vs, rfl, h, _⟩ := a.tupOf rfl
      exact SqT.ty h
    · obtain ⟨p, vs, rfl, h, _⟩ := a.lstOf rfl
      exact SqL.ty h
    · obtain ⟨R, f, h, s⟩ := a.temp
      simp only [Rep] at h
      obtain ⟨_, p, kvs, rfl, h, _⟩ := h
      exact .base (.dK (s _ _ h))
    · obtain ⟨p, vs, rfl, h, _⟩ := a.tupOf rfl
      exact SqT.ty h
    · obtain ⟨p, vs, rfl, h, _⟩ := a.lstOf rfl
      exact SqL.ty h
    · obtain ⟨R, f, h, s⟩ := a.temp
      simp only [Rep] at h
      obtain ⟨p, kvs, f', rfl, h, _⟩ := h
      exact .base (.dK h)
  | none =>
    rw [q] at e
    simp only at e
    cases q2 : insOf d with
    | none => rw [q2] at e; cases e
    | some p =>
      obtain ⟨x, l⟩ := p
      rw [q2] at e
      obtain ⟨R, f, h, s⟩ := a.temp
      obtain ⟨p, C, dx, fv, f1, rfl, h3, h4, _⟩ := h.insOf q2 s
      obtain ⟨I, r⟩ := T.c _ (lookup_mem e) C h3
      exact ⟨.ref C, .base (.ins h4 I.cl I.ha I.hn I.htk I.hm), r⟩
def eIsi (tb : TbI) (f : M D) : M D := bnd f fun d => bnd (lft (isiD tb d)) fun b => ret (.bl b)
/-- what is made and not looked at again -/
theorem A.junk {K : PySem.W.Frag} {c : Cn} {σ : Sl} {H : Hp} {tv : List V} {env td : List D} {p : Addr} {o : HO} (a : A K c σ H tv env td) (hp : H p = none) : A K c σ (upd H p o) tv env td := by
  obtain ⟨R, fs, ft, S⟩ := a
  have ev : Ev R H [] R (upd H p o) := Ev.alloc S.same hp
  have := SI.goT (f := []) (g := ft) (vs := []) (ds := []) (vs1 := []) (ds1 := []) (f1 := []) (tv := tv) (td := td) S S.temps ev (fun b hb => (S.own b hb).1) (RepL.nil_iff.mpr ⟨rfl, rfl⟩) (by simp) (fun b hb => nomatch hb)
  exact ⟨R, fs, ft, this⟩
theorem pe_cls {u : Value} {v : V} {x : Str} {p : Pos} (hg : Gl X x) (h : (X.mg x = none ∧ bootBuiltins x = some u ∧ x ≠ "__name__") ∨ X.mg x = some u) (r : RelV v u) (hd : (x == ("__debug__" : Str)) = false := by decide) : PE X (.Name x p) (tC v) := by
  rcases h with ⟨h1, h2, h3⟩ | h
  · exact pe_bltn hg h1 h2 r h3 hd
  · exact pe_glob hg h r hd
theorem m_isi {tb : TbI} {v : V} {u : Value} {t : Expr} {p : Pos} (hg : Gl X "isinstance") (hm : X.mg "isinstance" = none) (he : PE X e (tM X.K c f)) (ht : PE X t (tC v)) (hv : ClsV v u) (T : IsOk X.K c.cl (fun t b => PySem.W.kitOne X.K t u = some b) tb)
    (hs : starEach [e, t] X.env = (false, eval e X.env) :: starEach [t] X.env := by rfl) (hs2 : starEach [t] X.env = (false, eval t X.env) :: starEach [] X.env := by rfl) (hpl : (backTo pos (starEach [t] X.env)).any (·.1) = false := by rfl) : PE X (.Call (.Name "isinstance" p) [e, t] [] pos) (tM X.K c (eIsi tb f)) :=
  (pe_callB call_isi hg hm rfl (pa_cons he (pa_cons ht pa_nil hs2) hs) (by decide) (by decide) hs hpl).imp fun σ H Q ⟨tv, env, td, a, ok⟩ => ⟨tv, env, td, a, ok.bnd.mono fun d e1 ok1 H1 x a1 => by
    obtain ⟨b, eb, ok2⟩ := ok1.lftb
    obtain ⟨ty, h1, h2⟩ := a1.tyX T eb
    exact ⟨x, v, ty, u, b, rfl, hv, h1, h2, ok2 H1 _ (a1.pop.push rfl)⟩⟩
/-- a row of classes -/
inductive PCl (X : Cx) : List Expr → List V → List Value → Prop where
  | nil : PCl X [] [] []
  | cons {t : Expr} {ts : List Expr} {v : V} {u : Value} {vs : List V} {us : List Value} (h : PE X t (tC v)) (hv : ClsV v u) (hs : starEach (t :: ts) X.env = (false, eval t X.env) :: starEach ts X.env) (r : PCl X ts vs us) : PCl X (t :: ts) (v :: vs) (u :: us)
theorem PCl.pa : ∀ {ts : List Expr} {vs : List V} {us : List Value}, PCl X ts vs us → PA X ts (fun _ H Q => Q vs H)
  | _, _, _, .nil => pa_nil
  | _, _, _, .cons h hv hs r => pa_cons h r.pa hs
theorem PCl.cls : ∀ {ts : List Expr} {vs : List V} {us : List Value}, PCl X ts vs us → Paired ClsV vs us
  | _, _, _, .nil => .nil
  | _, _, _, .cons h hv hs r => .cons hv r.cls
theorem m_isiT {tb : TbI} {vs : List V} {us : List Value} {ts : List Expr} {p : Pos} {k : Nat} (hg : Gl X "isinstance") (hm : X.mg "isinstance" = none) (he : PE X e (tM X.K c f)) (ht : PCl X ts vs us) (hl : vs.length ≤ 16777216) (T : IsOk X.K c.cl (fun t b => PySem.W.kitAny X.K t us = some b) tb)
    (hs : starEach [e, .Tuple ts k p2] X.env = (false, eval e X.env) :: starEach [.Tuple ts k p2] X.env := by rfl) (hs2 : starEach [.Tuple ts k p2] X.env = (false, eval (.Tuple ts k p2) X.env) :: starEach [] X.env := by rfl) (hpl : (backTo pos (starEach [.Tuple ts k p2] X.env)).any (·.1) = false := by rfl) :
    PE X (.Call (.Name "isinstance" p) [e, .Tuple ts k p2] [] pos) (tM X.K c (eIsi tb f)) :=
  (pe_callB call_isiT hg hm rfl (pa_cons he (pa_cons (pe_tup ht.pa) pa_nil hs2) hs) (by decide) (by decide) hs hpl).imp fun σ H Q ⟨tv, env, td, a, ok⟩ => ⟨tv, env, td, a, ok.bnd.mono fun d e1 ok1 H1 x a1 => ⟨line_of hl, fun q hq => by
    obtain ⟨b, eb, ok2⟩ := ok1.lftb
    have a2 := a1.junk (o := .tup vs) hq
    obtain ⟨ty, h1, h2⟩ := a2.tyX T eb
    exact ⟨x, q, vs, ty, us, b, rfl, upd_same, ht.cls, h1, h2, ok2 _ _ (a2.pop.push rfl)⟩⟩⟩
/-! ### truth -/
def truD (d : D) : Option Bool := match sv d with
  | some .non => some false
  | some (.bl b) => some b
  | some (.int i) => some (i != 0)
  | some (.str z) => if z.length ≤ 16777216 then some ((z.length : Int) != 0) else none
  | some _ => none
  | none => match lstOf d with
    | some l => some (!l.isEmpty)
    | none => match tupOf d with
      | some l => some (!l.isEmpty)
      | none => none
def qT (f : M D) : M Bool := bnd f fun d => lft (truD d)
theorem emp_len {α β : Type} {l : List α} {m : List β} (h : l.length = m.length) : l.isEmpty = m.isEmpty := by
  cases l <;> cases m <;> simp at h ⊢
theorem t_truth (he : PE X e (tM X.K c f)) (hw : ∀ whole, isTrue e X.env whole = (do let v ← whole; standAt e.pos; holding [v] (truthy v)) := by intro _; rfl) : PT X e (tT X.K c (qT f)) :=
  (pt_truth he hw).imp fun σ H Q ⟨tv, env, td, a, ok⟩ => ⟨tv, env, td, a, ok.bnd.mono fun d e1 ok1 H1 x a1 => by
    obtain ⟨b, eb, q⟩ := ok1.lft
    refine ⟨b, ?_, q H1 a1.pop⟩
    unfold truD at eb
    cases h : sv d with
    | some y =>
      rw [h] at eb
      have := a1.sv h
      subst this
      cases x <;> simp only at eb <;> first | (cases eb; done) | skip
      all_goals first | (cases eb; exact rfl) | skip
      rename_i z
      by_cases hz : z.length ≤ 16777216
      · rw [if_pos hz] at eb
        cases eb
        exact ⟨line_of hz, rfl⟩
      · rw [if_neg hz] at eb; cases eb
    | none =>
      rw [h] at eb
      simp only at eb
      cases h1 : lstOf d with
      | some ds =>
        rw [h1] at eb
        cases eb
        obtain ⟨p, vs, rfl, hs, a4⟩ := a1.lstOf h1
        have hlen : vs.length = ds.length := by have := a4.same_len; have := a1.pop.same_len; simp at *; omega
        exact .inl ⟨vs, hs, by rw [emp_len hlen]⟩
      | none =>
        rw [h1] at eb
        simp only at eb
        cases h2 : tupOf d with
        | none => rw [h2] at eb; cases eb
        | some ds =>
          rw [h2] at eb
          cases eb
          obtain ⟨p, vs, rfl, hs, a4⟩ := a1.tupOf h2
          have hlen : vs.length = ds.length := by have := a4.same_len; have := a1.pop.same_len; simp at *; omega
          exact .inr (.inl ⟨vs, hs, by rw [emp_len hlen]⟩)⟩
/-! ### texts -/
def eU1 (op : D → Option D) (f : M D) : M D := bnd f fun d => lft (op d)
theorem m_m0 {id : String} {name : Str} {apos : Pos} {g : Str → V} {gd : Str → D} {C : Str → Prop} [DecidablePred C] (slot : Slot "str" name id) (ty : typeOf (.builtin id) = pure (.type "method_descriptor")) (rule : MtR X id (fun x xs H Q => ∃ a, x = .str a ∧ xs = [] ∧ C a ∧ Q (g a) H)) (hgd : ∀ a, sv (gd a) = some (g a)) (ho : PE X o (tM X.K c f))
    (hbase : attributeBase o name X.env (eval o X.env) = eval o X.env := by rfl) (hline : (apos.endLine == pos.line) = true := by rfl) : PE X (.Call (.Attribute o name apos) [] [] pos) (tM X.K c (eUn (fun d => match d with | .str a => if C a then some (gd a) else none | _ => none) f)) :=
  (pe_m0 slot ty rule ho hbase hline).imp fun σ H Q ⟨tv, env, td, a, ok⟩ => ⟨tv, env, td, a, ok.bnd.mono fun d e1 ok1 H1 x a1 => by
    obtain ⟨r, er, q⟩ := ok1.lft
    cases d <;> try (cases er; done)
    rename_i z
    simp only at er
    by_cases hz : C z
    · rw [if_pos hz] at er
      cases er
      have := a1.sv rfl
      subst this
      exact ⟨⟨z, rfl⟩, z, rfl, rfl, hz, q H1 _ (a1.pop.push (hgd z))⟩
    · rw [if_neg hz] at er; cases er⟩
def strOf : D → Option Str
  | .str a => some a
  | _ => none
theorem A.str {K : PySem.W.Frag} {c : Cn} {σ : Sl} {H : Hp} {tv : List V} {env td : List D} {v : V} {d : D} {z : Str} (a : A K c σ H (v :: tv) env (d :: td)) (e : strOf d = some z) : v = .str z ∧ d = .str z := by
  cases d <;> simp only [strOf] at e <;> cases e
  exact ⟨a.sv rfl, rfl⟩
def eM1 (gd : Str → Str → D) (f h : M D) : M D := bnd f fun d => bnd (lft (strOf d)) fun a => bnd h fun e => bnd (lft (strOf e)) fun b => ret (gd a b)
theorem m_m1 {id : String} {name : Str} {apos : Pos} {g : Str → Str → V} (gd : Str → Str → D) (slot : Slot "str" name id) (ty : typeOf (.builtin id) = pure (.type "method_descriptor")) (rule : MtR X id (fun x xs H Q => ∃ a b, x = .str a ∧ xs = [.str b] ∧ Q (g a b) H)) (hgd : ∀ a b, sv (gd a b) = some (g a b)) (ho : PE X o (tM X.K c f)) (he : PE X e (tM X.K c h))
    (hs : starEach [e] X.env = [(false, eval e X.env)] := by rfl) (hbase : attributeBase o name X.env (eval o X.env) = eval o X.env := by rfl) (hline : (apos.endLine == pos.line) = true := by rfl) : PE X (.Call (.Attribute o name apos) [e] [] pos) (tM X.K c (eM1 gd f h)) :=
  (pe_m1 slot ty rule ho he hs hbase hline).imp fun σ H Q ⟨tv, env, td, a, ok⟩ => ⟨tv, env, td, a, ok.bnd.mono fun d e1 ok1 H1 x a1 => by
    obtain ⟨z, ez, ok2⟩ := ok1.lftb
    obtain ⟨rfl, rfl⟩ := a1.str ez
    refine ⟨⟨z, rfl⟩, V.str z :: tv, e1, .str z :: td, a1, (ok2.bnd.over1).mono fun d2 e2 ok3 H2 y a2 => ?_⟩
    obtain ⟨w, ew, ok4⟩ := ok3.lftb
    obtain ⟨rfl, rfl⟩ := a2.str ew
    exact ⟨z, w, rfl, rfl, ok4 H2 _ (a2.pop.pop.push (hgd _ _))⟩⟩
def e_startswith := eM1 fun a b => .bl (Txt.startswith a b)
theorem m_startswith {apos : Pos} (ho : PE X o (tM X.K c f)) (he : PE X e (tM X.K c h)) (hs : starEach [e] X.env = [(false, eval e X.env)] := by rfl) (hbase : attributeBase o "startswith" X.env (eval o X.env) = eval o X.env := by rfl) (hline : (apos.endLine == pos.line) = true := by rfl) :
    PE X (.Call (.Attribute o "startswith" apos) [e] [] pos) (tM X.K c (e_startswith f h)) := m_m1 _ F.slot_str_startswith F.type_str_startswith mt_startswith (fun _ _ => rfl) ho he hs hbase hline
def e_isdigit (f : M D) : M D := eUn (fun d => match d with | .str a => if True then some (.bl (Txt.isdigit a)) else none | _ => none) f
theorem m_isdigit {apos : Pos} (ho : PE X o (tM X.K c f)) (hbase : attributeBase o "isdigit" X.env (eval o X.env) = eval o X.env := by rfl) (hline : (apos.endLine == pos.line) = true := by rfl) :
    PE X (.Call (.Attribute o "isdigit" apos) [] [] pos) (tM X.K c (e_isdigit f)) := m_m0 (gd := fun a => .bl (Txt.isdigit a)) F.slot_str_isdigit F.type_str_isdigit mt_isdigit (fun _ => rfl) ho hbase hline
end
variable {K : PySem.W.Frag}
/-! int(..) of an int, a bool or a text -/
def intA : List D → Option D
  | [.int i] => some (.int i)
  | [.bl k] => some (.int (if k then 1 else 0))
  | [.str a] => if a.length ≤ 640 then (PySem.intText? a).map .int else none
  | _ => none
theorem CallR.or {X : Cx} {f : Value} {r r' : List V → Hp → VK → Prop} (h : CallR X f r) (h' : CallR X f r') : CallR X f (fun x H Q => r x H Q ∨ r' x H Q) := by
  intro pins s σ H xs us Q I rv q
  rcases q with q | q
  · exact h pins s σ H xs us Q I rv q
  · exact h' pins s σ H xs us Q I rv q
def rIntA : List V → Hp → VK → Prop := fun xs H Q => ((∃ i, xs = [.int i] ∧ Q (.int i) H) ∨ ∃ k, xs = [.bl k] ∧ Q (.int (if k then 1 else 0)) H) ∨ ∃ a n, xs = [.str a] ∧ PySem.intText? a = some n ∧ a.length ≤ 640 ∧ Q (.int n) H
theorem call_intA {X : Cx} : CallR X (.type "int") rIntA := call_int1.or call_int_str
theorem mB_intA : CallM K rIntA intA := by
  intro c σ H tv vs env td ds d Q hl a e q
  unfold intA at e
  split at e
  · cases e
    obtain ⟨v, rfl⟩ := vs1 hl
    have := A.sv (v := v) (tv := tv) a rfl
    subst this
    exact .inl (.inl ⟨_, rfl, q _ _ (a.push rfl)⟩)
  · cases e
    obtain ⟨v, rfl⟩ := vs1 hl
    have := A.sv (v := v) (tv := tv) a rfl
    subst this
    exact .inl (.inr ⟨_, rfl, q _ _ (a.push rfl)⟩)
  · rename_i z
    by_cases hz : z.length ≤ 640
    · rw [if_pos hz] at e
      obtain ⟨n, hn, rfl⟩ := map_some e
      obtain ⟨v, rfl⟩ := vs1 hl
      have := A.sv (v := v) (tv := tv) a rfl
      subst this
      exact .inr ⟨_, _, rfl, hn, hz, q _ _ (a.push rfl)⟩
    · rw [if_neg hz] at e; cases e
  · cases e
/-! str(int) -/
def strB : List D → Option D
  | [.int i] => if i.natAbs.log2 < 1920 then some (.str (toString i)) else none
  | _ => none
theorem mB_str : CallM K (fun xs H Q => ∃ i, xs = [.int i] ∧ i.natAbs.log2 < 1920 ∧ Q (.str (toString i)) H) strB := by
  intro c σ H tv vs env td ds d Q hl a e q
  unfold strB at e
  split at e
  · rename_i i
    by_cases hz : i.natAbs.log2 < 1920
    · rw [if_pos hz] at e
      cases e
      obtain ⟨v, rfl⟩ := vs1 hl
      have := A.sv (v := v) (tv := tv) a rfl
      subst this
      exact ⟨_, rfl, hz, q _ _ (a.push rfl)⟩
    · rw [if_neg hz] at e; cases e
  · cases e
/-! max, min, sum of a list of ints; max, min of several ints -/
def intsOf : List D → Option (List Int)
  | [] => some []
  | .int i :: l => (intsOf l).map (i :: ·)
  | _ => none
theorem RepL.ints {cl : ClT} {R H : Hp} : ∀ {ds : List D} {f : List Addr} {vs : List V} {ns : List Int}, RepL K cl R H f vs ds → intsOf ds = some ns → vs = ns.map V.int
  | [], f, vs, ns, h, e => by cases e; exact (RepL.nil_iff.mp h).2
  | d :: ds, f, vs, ns, h, e => by
    obtain ⟨f0, g0, x, xs, rfl, rfl, h1, h2⟩ := RepL.cons_iff.mp h
    cases d <;> simp only [intsOf] at e <;> try (cases e; done)
    obtain ⟨ms, e1, rfl⟩ := map_some e
    simp only [Rep] at h1
    rw [h1.2, RepL.ints h2 e1]
    rfl
theorem A.ints {c : Cn} {σ : Sl} {H : Hp} {tv : List V} {env td : List D} {v : V} {d : D} {ds : List D} {ns : List Int} (a : A K c σ H (v :: tv) env (d :: td)) (e : Pm.lstOf d = some ds) (h : intsOf ds = some ns) : ∃ p, v = .ref p ∧ SqL K H p (ns.map V.int) := by
  obtain ⟨p, vs, rfl, hs, a4⟩ := a.lstOf e
  have hlen : vs.length = ds.length := by have := a4.same_len; have := a.pop.same_len; simp at *; omega
  obtain ⟨R, fs, ft, S⟩ := a4
  obtain ⟨f, g, rfl, h1, h2⟩ := S.temps.split hlen
  rw [h1.ints h] at hs
  exact ⟨p, rfl, hs⟩
def maxL : List Int → Option Int
  | [] => none
  | a :: l => some (l.foldl (fun b x => if x > b then x else b) a)
def minL : List Int → Option Int
  | [] => none
  | a :: l => some (l.foldl (fun b x => if x < b then x else b) a)
theorem foldl_max (l : List Int) : ∀ a, (l.foldl (fun b x => if x > b then x else b) a = a ∨ l.foldl (fun b x => if x > b then x else b) a ∈ l) ∧ a ≤ l.foldl (fun b x => if x > b then x else b) a ∧ ∀ y ∈ l, y ≤ l.foldl (fun b x => if x > b then x else b) a := by
  induction l with
  | nil => intro a; simp
  | cons x l ih =>
    intro a
    obtain ⟨h1, h2, h3⟩ := ih (if x > a then x else a)
    have h4 : a ≤ (if x > a then x else a) ∧ x ≤ (if x > a then x else a) := by split <;> omega
    simp only [List.foldl_cons]
    refine ⟨?_, by omega, fun y hy => ?_⟩
    · rcases h1 with h1 | h1
      · rw [h1]
        split
        · exact .inr List.mem_cons_self
        · exact .inl rfl
      · exact .inr (List.mem_cons_of_mem _ h1)
    · rcases List.mem_cons.mp hy with rfl | hy
      · omega
      · exact h3 y hy
theorem foldl_min (l : List Int) : ∀ a, (l.foldl (fun b x => if x < b then x else b) a = a ∨ l.foldl (fun b x => if x < b then x else b) a ∈ l) ∧ l.foldl (fun b x => if x < b then x else b) a ≤ a ∧ ∀ y ∈ l, l.foldl (fun b x => if x < b then x else b) a ≤ y := by
  induction l with
  | nil => intro a; simp
  | cons x l ih =>
    intro a
    obtain ⟨h1, h2, h3⟩ := ih (if x < a then x else a)
    have h4 : (if x < a then x else a) ≤ a ∧ (if x < a then x else a) ≤ x := by split <;> omega
    simp only [List.foldl_cons]
    refine ⟨?_, by omega, fun y hy => ?_⟩
    · rcases h1 with h1 | h1
      · rw [h1]
        split
        · exact .inr List.mem_cons_self
        · exact .inl rfl
      · exact .inr (List.mem_cons_of_mem _ h1)
    · rcases List.mem_cons.mp hy with rfl | hy
      · omega
      · exact h3 y hy
theorem maxL_is {l : List Int} {m : Int} (h : maxL l = some m) : m ∈ l ∧ ∀ y ∈ l, y ≤ m := by
  cases l with
  | nil => cases h
  | cons a l =>
    simp only [maxL] at h
    have h := Option.some.inj h
    obtain ⟨h1, h2, h3⟩ := foldl_max l a
    rw [h] at h1 h2 h3
    refine ⟨?_, fun y hy => ?_⟩
    · rcases h1 with rfl | h1
      · exact List.mem_cons_self
      · exact List.mem_cons_of_mem _ h1
    · rcases List.mem_cons.mp hy with rfl | hy
      · exact h2
      · exact h3 y hy
theorem minL_is {l : List Int} {m : Int} (h : minL l = some m) : m ∈ l ∧ ∀ y ∈ l, m ≤ y := by
  cases l with
  | nil => cases h
  | cons a l =>
    simp only [minL] at h
    have h := Option.some.inj h
    obtain ⟨h1, h2, h3⟩ := foldl_min l a
    rw [h] at h1 h2 h3
    refine ⟨?_, fun y hy => ?_⟩
    · rcases h1 with rfl | h1
      · exact List.mem_cons_self
      · exact List.mem_cons_of_mem _ h1
    · rcases List.mem_cons.mp hy with rfl | hy
      · exact h2
      · exact h3 y hy
def onL (g : List Int → Option Int) : List D → Option D
  | [d] => match lstOf d with
    | some l => match intsOf l with
      | some ns => (g ns).map .int
      | none => none
    | none => none
  | _ => none
theorem onL_of {g : List Int → Option Int} {ds : List D} {d : D} (e : onL g ds = some d) : ∃ d0 l ns m, ds = [d0] ∧ lstOf d0 = some l ∧ intsOf l = some ns ∧ g ns = some m ∧ d = .int m := by
  unfold onL at e
  split at e
  · rename_i d0
    split at e
    · rename_i l h1
      split at e
      · rename_i ns h2
        obtain ⟨m, h3, rfl⟩ := map_some e
        exact ⟨d0, l, ns, m, rfl, h1, h2, h3, rfl⟩
      · cases e
    · cases e
  · cases e
theorem mB_maxL : CallM K (rMax K) (onL maxL) := by
  intro c σ H tv vs env td ds d Q hl a e q
  obtain ⟨d0, l, ns, m, rfl, h1, h2, h3, rfl⟩ := onL_of e
  obtain ⟨v, rfl⟩ := vs1 hl
  obtain ⟨p, rfl, hs⟩ := A.ints (v := v) (tv := tv) a h1 h2
  obtain ⟨i1, i2⟩ := maxL_is h3
  refine ⟨p, ns, rfl, hs, by cases ns <;> simp at i1 ⊢, fun m' h4 h5 => ?_⟩
  have : m' = m := Int.le_antisymm (i2 m' h4) (h5 m i1)
  subst this
  exact q _ _ (a.push rfl)
theorem mB_minL : CallM K (rMin K) (onL minL) := by
  intro c σ H tv vs env td ds d Q hl a e q
  obtain ⟨d0, l, ns, m, rfl, h1, h2, h3, rfl⟩ := onL_of e
  obtain ⟨v, rfl⟩ := vs1 hl
  obtain ⟨p, rfl, hs⟩ := A.ints (v := v) (tv := tv) a h1 h2
  obtain ⟨i1, i2⟩ := minL_is h3
  refine ⟨p, ns, rfl, hs, by cases ns <;> simp at i1 ⊢, fun m' h4 h5 => ?_⟩
  have : m' = m := Int.le_antisymm (h5 m i1) (i2 m' h4)
  subst this
  exact q _ _ (a.push rfl)
theorem mB_sumL : CallM K (rSum K) (onL fun l => some l.sum) := by
  intro c σ H tv vs env td ds d Q hl a e q
  obtain ⟨d0, l, ns, m, rfl, h1, h2, h3, rfl⟩ := onL_of e
  cases h3
  obtain ⟨v, rfl⟩ := vs1 hl
  obtain ⟨p, rfl, hs⟩ := A.ints (v := v) (tv := tv) a h1 h2
  exact ⟨p, ns, rfl, hs, q _ _ (a.push rfl)⟩
/-! max, min of three ints -/
theorem vals3' {x y z : V} {us : List Value} (r : Vals [x, y, z] us) : ∃ u v w', us = [u, v, w'] ∧ RelV x u ∧ RelV y v ∧ RelV z w' := by
  cases r with
  | cons r1 r2 =>
    obtain ⟨v, w', rfl, h1, h2⟩ := vals2 r2
    exact ⟨_, _, _, rfl, r1, h1, h2⟩
def max3 (a b c : Int) : Int := if b > a then (if c > b then c else b) else (if c > a then c else a)
def min3 (a b c : Int) : Int := if b < a then (if c < b then c else b) else (if c < a then c else a)
theorem call_max3 {X : Cx} (hc : X.calm = true) : CallR X (.builtin "max") (fun xs H Q => ∃ i j k, xs = [.int i, .int j, .int k] ∧ Q (.int (max3 i j k)) H) := by
  intro pins s σ H xs us Q I r h
  obtain ⟨i, j, k, rfl, q⟩ := h
  obtain ⟨u, v, w', rfl, ⟨t, rfl⟩, ⟨t', rfl⟩, ⟨t2, rfl⟩⟩ := vals3' r
  refine max_three_ints (I.ok.hd hc) fun h' tk kk => ⟨_, H, I.kept kk, ?_, q⟩
  unfold max3
  by_cases h1 : j > i <;> by_cases h2 : k > j <;> by_cases h3 : k > i <;> simp only [h1, h2, h3, if_true, if_false] <;> exact ⟨_, rfl⟩
theorem call_min3 {X : Cx} (hc : X.calm = true) : CallR X (.builtin "min") (fun xs H Q => ∃ i j k, xs = [.int i, .int j, .int k] ∧ Q (.int (min3 i j k)) H) := by
  intro pins s σ H xs us Q I r h
  obtain ⟨i, j, k, rfl, q⟩ := h
  obtain ⟨u, v, w', rfl, ⟨t, rfl⟩, ⟨t', rfl⟩, ⟨t2, rfl⟩⟩ := vals3' r
  refine min_three_ints (I.ok.hd hc) fun h' tk kk => ⟨_, H, I.kept kk, ?_, q⟩
  unfold min3
  by_cases h1 : j < i <;> by_cases h2 : k < j <;> by_cases h3 : k < i <;> simp only [h1, h2, h3, if_true, if_false] <;> exact ⟨_, rfl⟩
def on3 (g : Int → Int → Int → Int) : List D → Option D
  | [.int i, .int j, .int k] => some (.int (g i j k))
  | _ => none
theorem mB_3 (g : Int → Int → Int → Int) : CallM K (fun xs H Q => ∃ i j k, xs = [.int i, .int j, .int k] ∧ Q (.int (g i j k)) H) (on3 g) := by
  intro c σ H tv vs env td ds d Q hl a e q
  unfold on3 at e
  split at e <;> cases e
  obtain ⟨v, w, x, rfl⟩ := vs3 hl
  have h1 := A.sv (v := v) (tv := w :: x :: tv) a rfl
  have h2 := A.sv (v := w) (tv := x :: tv) (A.pop a) rfl
  have h3 := A.sv (v := x) (tv := tv) (A.pop (A.pop a)) rfl
  subst h1; subst h2; subst h3
  exact ⟨_, _, _, rfl, q _ _ (a.push rfl)⟩
end Pm

namespace Pm
open PySem PySem.Spec PyProof.Rows L2
/-! ### list comprehensions -/
def cB (c : Cn) : Cn := ⟨c.cl, c.msk, c.E, fun _ _ _ _ => False⟩
def wipeE : List Nat → List D → List D
  | [], env => env
  | v :: vs, env => (wipeE vs env).set v .un
section
variable {K : PySem.W.Frag} {c : Cn} {σ σ' : Sl} {H : Hp} {tv vs : List V} {env td ds : List D} {v y : V} {d r : D} {p : Addr}
theorem A.set1 (a : A K c σ H tv env td) {i : Nat} (hm : c.msk.getD i false = false) (x : Option V) : A K c (σ.set i x) H tv (env.set i .un) td := by
  cases q : env[i]? with
  | none =>
    have h1 : env.length ≤ i := List.getElem?_eq_none_iff.mp q
    have h2 := a.len.1
    rw [List.set_eq_of_length_le h1, List.set_eq_of_length_le (by omega)]
    exact a
  | some d0 =>
    obtain ⟨R, fs, ft, S⟩ := a
    obtain ⟨f0, g0, x0, e1, p, h3, k⟩ := RepS.take S.slots q
    obtain ⟨fp', p', hs⟩ := k R H (Same.refl R) (fun _ _ => rfl) [] x .un (by
      cases x with
      | none => exact ⟨rfl, rfl⟩
      | some v => simp only [RepO, Rep])
    refine ⟨R, fp', ft, S.sub hs S.temps ⟨f0, ?_⟩ fun i' hi' => ?_⟩
    · refine (List.Perm.append_right _ (p'.append_right ft)).trans ?_
      refine List.Perm.trans ?_ (p.symm.append_right ft)
      simp only [List.nil_append, List.append_assoc]
      refine (List.Perm.append_left g0 List.perm_append_comm).trans ?_
      exact perm3 g0 f0 ft
    · by_cases h : i' = i
      · rw [h] at hi'; rw [hm] at hi'; cases hi'
      · rw [List.getElem?_set_ne (Ne.symm h)]
theorem A.wipe (vs : List Nat) (hm : ∀ i ∈ vs, c.msk.getD i false = false) (a : A K c σ H tv env td) : A K c (L2.wipe σ vs) H tv (wipeE vs env) td := by
  induction vs with
  | nil => exact a
  | cons i vs ih => exact (ih fun j hj => hm j (List.mem_cons_of_mem _ hj)).set1 (hm i List.mem_cons_self) none
theorem A.reslot : ∀ {vs : List Nat} {σ : Sl} {env : List D}, (∀ i ∈ vs, c.msk.getD i false = false) → σ'.length = σ.length → (∀ i, i ∉ vs → σ'[i]? = σ[i]?) → A K c σ H tv env td → A K c σ' H tv (wipeE vs.reverse env) td
  | [], σ, env, _, hl, h, a => by
    have : σ' = σ := List.ext_getElem? fun i => h i (by simp)
    subst this
    exact a
  | i :: vs, σ, env, hm, hl, h, a => by
    have a1 := a.set1 (hm i List.mem_cons_self) (σ'.getD i none)
    have a2 := A.reslot (vs := vs) (σ := σ.set i (σ'.getD i none)) (fun j hj => hm j (List.mem_cons_of_mem _ hj)) (by simpa using hl) (fun j hj => by
      by_cases e : j = i
      · subst e
        by_cases hlt : j < σ.length
        · rw [List.getElem?_set_self hlt]
          simp [List.getElem?_eq_getElem (show j < σ'.length by omega)]
        · rw [List.getElem?_eq_none (by omega), List.getElem?_eq_none (by simp; omega)]
      · rw [List.getElem?_set_ne (Ne.symm e)]
        exact h j (by simp [e, hj])) a1
    have e : ∀ (ws : List Nat) (env : List D), wipeE (ws ++ [i]) env = wipeE ws (env.set i .un) := fun ws => by
      induction ws with
      | nil => intro env; rfl
      | cons w ws ih => intro env; show (wipeE (ws ++ [i]) env).set w .un = _; rw [ih]; rfl
    rw [List.reverse_cons, e]
    exact a2
theorem wipe_off {σ : Sl} {i : Nat} : ∀ {vs : List Nat}, i ∉ vs → (L2.wipe σ vs)[i]? = σ[i]?
  | [], _ => rfl
  | v :: vs, h => by
    simp only [List.mem_cons, not_or] at h
    show ((L2.wipe σ vs).set v none)[i]? = _
    rw [List.getElem?_set_ne (Ne.symm h.1), wipe_off h.2]
theorem wipe_on {σ : Sl} {i : Nat} : ∀ {vs : List Nat}, i ∈ vs → i < σ.length → (L2.wipe σ vs)[i]? = some none
  | v :: vs, h, hl => by
    show ((L2.wipe σ vs).set v none)[i]? = _
    by_cases e : v = i
    · subst e
      rw [List.getElem?_set_self (by rw [wipe_length]; exact hl)]
    · rw [List.getElem?_set_ne e]
      rcases List.mem_cons.mp h with rfl | h
      · exact absurd rfl e
      · exact wipe_on h hl
theorem wipe_eq {σ σ' : Sl} {vs : List Nat} (hl : σ'.length = σ.length) (h : ∀ i, i ∉ vs → σ'[i]? = σ[i]?) : L2.wipe σ' vs = L2.wipe σ vs := List.ext_getElem? fun i => by
  by_cases hi : i ∈ vs
  · by_cases hlt : i < σ.length
    · rw [wipe_on hi hlt, wipe_on hi (by omega)]
    · rw [List.getElem?_eq_none (by rw [wipe_length]; omega), List.getElem?_eq_none (by rw [wipe_length]; omega)]
  · rw [wipe_off hi, wipe_off hi, h i hi]
/-- a value is put behind the new list -/
theorem A.addT {vs : List V} {l : List D} (a : A K c σ H (y :: .ref p :: tv) env (d :: .olst l :: td)) : ∃ vs, H p = some (.lst vs) ∧ vs.length = l.length ∧ A K c σ (upd H p (.lst (vs ++ [y]))) (.ref p :: tv) env (.olst (l ++ [d]) :: td) := by
  obtain ⟨R, fs, ft, S⟩ := a
  obtain ⟨f, g, rfl, h1, h2⟩ := S.temps.inv
  obtain ⟨f2, g2, rfl, h3, h4⟩ := h2.inv
  simp only [Rep] at h3
  obtain ⟨a', vs, f3, e, h5, rfl, h6⟩ := h3
  cases e
  refine ⟨vs, h5, h6.length, ?_⟩
  have S' : SI K c.cl c.msk c.E R H fs ((f ++ p :: f3) ++ g2) σ env ([y, .ref p] ++ tv) ([d, .olst l] ++ td) := by rw [List.append_assoc]; exact S
  obtain ⟨n1, n2, n3⟩ := List.nodup_append.mp S'.nd
  obtain ⟨n4, n5, n6⟩ := List.nodup_append.mp n2
  obtain ⟨n7, n8, n9⟩ := List.nodup_append.mp n4
  have hpm : p ∈ f ++ p :: f3 := List.mem_append_right _ List.mem_cons_self
  have ev : Ev R H (f ++ p :: f3) R (upd H p (.lst (vs ++ [y]))) := Ev.write S.same hpm (S'.own p (List.mem_append_right _ (List.mem_append_left _ hpm))).1
  have nf : ∀ b ∈ f, b ≠ p := fun b hb z => n9 b hb p List.mem_cons_self z
  have nf3 : ∀ b ∈ f3, b ≠ p := fun b hb z => (List.nodup_cons.mp n8).1 (z ▸ hb)
  have pm : (p :: (f3 ++ f)).Perm (f ++ p :: f3) := by
    show (p :: f3 ++ f).Perm _
    exact List.perm_append_comm
  refine ⟨R, fs, (p :: (f3 ++ f)) ++ g2, SI.goT (vs1 := [.ref p]) (ds1 := [.olst (l ++ [d])]) (f1 := p :: (f3 ++ f)) S' h4 ev (fun b hb => ?_) ?_ (pm.nodup_iff.mpr n4) fun b hb => ?_⟩
  · have hm : b ∈ fs ++ ((f ++ p :: f3) ++ g2) := by
      rcases List.mem_append.mp hb with z | z
      · exact List.mem_append_left _ z
      · exact List.mem_append_right _ (List.mem_append_right _ z)
    exact (S'.own b hm).1
  · have : RepL K c.cl R (upd H p (.lst (vs ++ [y]))) (p :: (f3 ++ f) ++ []) [.ref p] [.olst (l ++ [d])] := RepL.cons (by
      simp only [Rep]
      exact ⟨p, vs ++ [y], f3 ++ f, rfl, upd_same, rfl, RepL.snoc (RepL.mono (Same.refl R) _ (fun b hb => upd_ne (nf3 b hb)) h6) (Rep.mono (Same.refl R) _ (fun b hb => upd_ne (nf b hb)) h1)⟩) (RepL.nil_iff.mpr ⟨rfl, rfl⟩)
    simpa using this
  · have hb' : b ∈ f ++ p :: f3 := pm.mem_iff.mp hb
    obtain ⟨h7, ⟨o, h8⟩, _⟩ := S'.own b (List.mem_append_right _ (List.mem_append_left _ hb'))
    refine ⟨h7, ?_, .inl hb'⟩
    by_cases e : b = p
    · exact ⟨_, by rw [e]; exact upd_same⟩
    · exact ⟨o, by rw [upd_ne e]; exact h8⟩
end
/-- one block's turns -/
def compD (vs : List Nat) (t : D → M Unit) (q : M Bool) (f : M D) : List D → List D → M (List D)
  | [], acc => fun env => .ok acc env
  | d :: ds, acc => fun env => match bnd (t d) (fun _ => bnd q fun b => if b then bnd f fun y => ret (acc ++ [y]) else ret acc) (wipeE vs env) with
    | .ok acc' e => if acc'.length ≤ 16777216 then compD vs t q f ds acc' e else .bad
    | _ => .bad
def eLc (vs : List Nat) (mi : M (List D)) (t : D → M Unit) (q : M Bool) (f : M D) : M D := bnd mi fun items => bnd (compD vs t q f items []) fun l env => .ok (.olst l) (wipeE vs.reverse (wipeE vs env))
section
variable {X : Cx} {c : Cn} {elt tg iter : Expr} {ifs : List Expr} {scope : Scope} {own : List (Str × Nat)} {pos spos py : Pos} {mi : M (List D)} {t : D → M Unit} {q : M Bool} {f : M D} {sl : List Nat} {y : Str} {i : Nat}
def tTs (K : PySem.W.Frag) (c : Cn) (q : M Bool) : TT := tT K c q
theorem qs_nil {c : Cn} : PTs X [] (tT X.K c (ret true)) := ⟨fun pins s σ H Q I h => pts_nil.run pins s σ H Q I (by obtain ⟨tv, env, td, a, ok⟩ := h; exact ok H a)⟩
theorem qs_one {e : Expr} {c : Cn} (h : PT X e (tT X.K c q)) : PTs X [e] (tT X.K c q) := pts_one h
theorem compD_bad {vs : List Nat} {ds : List D} {acc : List D} {env : List D} {σ : Sl} {tv : List V} {td : List D} {c : Cn} {P : List D → List D → Prop} (h : Ok X.K c σ tv td (compD vs t q f ds acc env) P) : ∃ l e, compD vs t q f ds acc env = .ok l e := by
  have key : ∀ (ds acc env), (∃ l e, compD vs t q f ds acc env = .ok l e) ∨ compD vs t q f ds acc env = .bad := fun ds => by
    induction ds with
    | nil => exact fun acc env => .inl ⟨_, _, rfl⟩
    | cons d ds ih =>
      intro acc env
      unfold compD
      split
      · split
        · exact ih _ _
        · exact .inr rfl
      · exact .inr rfl
  rcases key ds acc env with h1 | h1
  · exact h1
  · rw [h1] at h; exact h.elim
theorem lc_run (own : List Nat) (hsl : ∀ i ∈ sl, i ∈ own) (hm : ∀ i ∈ own, c.msk.getD i false = false) {σ : Sl} {H : Hp} {Q : VK} (h : tM X.K c (eLc own mi t q f) σ H Q) :
    tLc (tI X.K c mi) (tG X.K (cB c) sl t) (tT X.K (cB c) q) (tM X.K (cB c) f) own σ H Q := by
  obtain ⟨tv, env, td, a, ok⟩ := h
  refine ⟨tv, env, td, a, ok.bnd.mono fun items e1 ok1 J H1 vs ds hl hJ a1 D hD => ?_⟩
  obtain ⟨lr, er, eq⟩ := compD_bad ok1.bnd
  have ok2 := ok1.bnd
  rw [eq] at ok2
  have a0 : A X.K c σ (upd H1 D (.lst [])) (.ref D :: (vs ++ tv)) e1 (.olst [] :: (ds ++ td)) := A.newL (vs := []) (ds := []) a1 rfl hD
  -- the turns
  refine ⟨fun i m H => m = items.length - i ∧ i ≤ items.length ∧ ∃ env acc, acc.length ≤ 16777216 ∧ A X.K (cB c) (L2.wipe σ own) H (.ref D :: (vs ++ tv)) (wipeE own env) (.olst acc :: (ds ++ td)) ∧ compD own t q f (items.drop i) acc env = .ok lr er, ⟨_, rfl, Nat.zero_le _, e1, [], by simp, A.wipe own hm a0, by simpa using eq⟩, ?_⟩
  rintro i m H2 ⟨rfl, hi, env2, acc, hz, a2, eq2⟩
  by_cases hlt : i < items.length
  · refine .inr ?_
    have hd : items.drop i = items[i] :: items.drop (i + 1) := List.drop_eq_getElem_cons hlt
    rw [hd] at eq2
    obtain ⟨hgo, hy⟩ := hJ.1 i items[i] (L2.wipe σ own) H2 (wipeE own env2) [.ref D] [.olst acc] rfl (List.getElem?_eq_getElem hlt) a2
    refine ⟨hgo, fun H' => ∃ env acc, acc.length ≤ 16777216 ∧ A X.K (cB c) (L2.wipe σ own) H' (.ref D :: (vs ++ tv)) (wipeE own env) (.olst acc :: (ds ++ td)) ∧ compD own t q f (items.drop (i + 1)) acc env = .ok lr er, fun H' ⟨e3, acc3, h3⟩ => ⟨_, by omega, rfl, hlt, e3, acc3, h3⟩, fun x H' y => ?_⟩
    have a3 := hy x H' y
    refine ⟨.ref D :: (vs ++ tv), wipeE own env2, .olst acc :: (ds ++ td), items[i], a3, ?_⟩
    unfold compD at eq2
    cases qt : t items[i] (wipeE own env2) with
    | bad => simp only [bnd, qt] at eq2; cases eq2
    | ex _ _ _ => simp only [bnd, qt] at eq2; cases eq2
    | ok u e3 =>
      simp only [bnd, qt] at eq2
      intro σ' H3 hsm a4
      have hw : L2.wipe σ' own = L2.wipe σ own := wipe_eq (by rw [hsm.1, wipe_length]) fun j hj => by rw [hsm.2 j (fun z => hj (hsl j z)), wipe_off hj]
      refine ⟨hw, .ref D :: (vs ++ tv), e3, .olst acc :: (ds ++ td), a4, ?_⟩
      cases qq : q e3 with
      | bad => simp only [qq] at eq2; cases eq2
      | ex _ _ _ => simp only [qq] at eq2; cases eq2
      | ok b e4 =>
        simp only [qq] at eq2
        intro H4 a5
        cases b with
        | false =>
          simp only [Bool.false_eq_true, if_false, ret] at eq2
          rw [if_neg Bool.false_ne_true]
          by_cases hz2 : acc.length ≤ 16777216
          · rw [if_pos hz2] at eq2
            exact ⟨e4, acc, hz2, hw ▸ A.wipe own hm a5, eq2⟩
          · exact absurd hz hz2
        | true =>
          simp only [if_true] at eq2
          rw [if_pos rfl]
          refine ⟨.ref D :: (vs ++ tv), e4, .olst acc :: (ds ++ td), a5, ?_⟩
          cases qf : f e4 with
          | bad => simp only [bnd, qf] at eq2; cases eq2
          | ex _ _ _ => simp only [bnd, qf] at eq2; cases eq2
          | ok y0 e5 =>
            simp only [bnd, qf, ret] at eq2
            by_cases hz2 : (acc ++ [y0]).length ≤ 16777216
            · rw [if_pos hz2] at eq2
              intro H5 w a6
              obtain ⟨us, h1, h2, a7⟩ := A.addT (vs := vs) a6
              refine ⟨us, h1, ?_, e5, acc ++ [y0], hz2, hw ▸ A.wipe own hm a7, eq2⟩
              rw [h2, sizeLine_eq]
              simp at hz2
              omega
            · rw [if_neg hz2] at eq2; cases eq2
  · have hi' : i = items.length := by omega
    subst hi'
    refine .inl ?_
    rw [List.drop_length] at eq2
    unfold compD at eq2
    cases eq2
    refine ⟨hJ.2 (L2.wipe σ own) H2 _ a2.pop, ok2 H2 (.ref D) ?_⟩
    have a3 : A X.K c (L2.wipe σ own) H2 (.ref D :: tv) (wipeE own er) (.olst lr :: td) := A.dropMid (c := c) a2 hl
    exact A.reslot hm (by rw [wipe_length]) (fun j hj => (wipe_off hj).symm) a3
theorem m_lc (hc : X.calm = true) (hN : X.N.Nodup) (hi : PI X tg iter (tI X.K c mi)) (ok : blkC X.N X.env.scope scope own = true) (hsl : ∀ i ∈ sl, i ∈ own.map (·.2)) (hm : ∀ i ∈ own.map (·.2), c.msk.getD i false = false)
    (hg : ∀ (s : Shared) (H : Hp) (C : Addr) (cl : List (Str × Addr)) (fp : List Addr), PG (X.blk s H scope (compEnvC scope cl C X.env) fp) tg (tG X.K (cB c) sl t)) (ht : ∀ (s : Shared) (H : Hp) (C : Addr) (cl : List (Str × Addr)) (fp : List Addr), PTs (X.blk s H scope (compEnvC scope cl C X.env) fp) ifs (tT X.K (cB c) q))
    (he : ∀ (s : Shared) (H : Hp) (C : Addr) (cl : List (Str × Addr)) (fp : List Addr), PE (X.blk s H scope (compEnvC scope cl C X.env) fp) elt (tM X.K (cB c) f)) (hs : ∀ x, foldedSetIterable iter X.env x = pure x := by intro _; rfl) :
    PE X (.ListComp elt [⟨tg, iter, ifs, 0⟩] scope pos) (tM X.K c (eLc (own.map (·.2)) mi t q f)) := (pe_lc hc hN hi (blkOk_by ok) hg ht he hs).imp fun _ _ _ h => lc_run _ hsl hm h
theorem s_setLc (hc : X.calm = true) (hN : X.N.Nodup) (hy : X.N[i]? = some y) (hyl : X.env.scope.names.lookup y = some .local) (hmi : c.msk.getD i false = false)
    (hsw : swapsWith (.ListComp elt [⟨tg, iter, ifs, 0⟩] scope pos) (some (.Name y py)) spos.line X.env = pure true) (hi : PI X tg iter (tI X.K c mi)) (ok : blkC X.N X.env.scope scope own = true) (hsl : ∀ i ∈ sl, i ∈ own.map (·.2)) (hm : ∀ i ∈ own.map (·.2), c.msk.getD i false = false)
    (hg : ∀ (s : Shared) (H : Hp) (C : Addr) (cl : List (Str × Addr)) (fp : List Addr), PG (X.blk s H scope (compEnvC scope cl C X.env) fp) tg (tG X.K (cB c) sl t)) (ht : ∀ (s : Shared) (H : Hp) (C : Addr) (cl : List (Str × Addr)) (fp : List Addr), PTs (X.blk s H scope (compEnvC scope cl C X.env) fp) ifs (tT X.K (cB c) q))
    (he : ∀ (s : Shared) (H : Hp) (C : Addr) (cl : List (Str × Addr)) (fp : List Addr), PE (X.blk s H scope (compEnvC scope cl C X.env) fp) elt (tM X.K (cB c) f)) (hs : ∀ x, foldedSetIterable iter X.env x = pure x := by intro _; rfl) :
    PS X (.Assign [.Name y py] (.ListComp elt [⟨tg, iter, ifs, 0⟩] scope pos) spos) (tS X.K c (sSet i (eLc (own.map (·.2)) mi t q f))) := (ps_setLc hc hN hy hyl hsw hi (blkOk_by ok) hg ht he hs).imp fun D σ H ⟨tv, env, td, a, ok⟩ => by
  have key : tM X.K c (eLc (own.map (·.2)) mi t q f) σ H (fun x H1 => gName i x σ H1 D.nx) := ⟨tv, env, td, a, (ok.bnd σ).mono fun d e1 ok1 H1 v a1 => ok1 _ H1 (a1.store hmi)⟩
  exact lc_run _ hsl hm key
end
end Pm

namespace Pm
open PySem PySem.Spec PyProof.Rows L2
/-! ### def f(a, .., *v) -/
section
variable {P : Program} {w : World} {K : PySem.W.Frag} {mg : Str → Option Value} {base : Heap}
/-- from the promise at the call to the body's start -/
theorem body_ok {cl : ClT} {m : M Fl} {nl n : Nat} {mk : List Bool} {N : List Str} {qual : Str} {sc : Scope} {body : List Stmt} {f : Addr} {cdv : Value} (hN : N.length = n + nl) (hmk : mk.length ≤ n) (A : Around) (outer : List Env) (s : Shared) (H : Hp) (vs : List V) (Q : VK) (E : XK)
    (hbody : ∀ e : Ent, PSs (cxOf (L2.CX P w) P w K mg base N qual sc f cdv A outer s H E) body (tS K ⟨cl, mk, e, fun cls d _ H => E cls d H⟩ m)) (h : spM K cl mk n (defM m nl mk) vs H Q E) :
    ∃ t, PSs (cxOf (L2.CX P w) P w K mg base N qual sc f cdv A outer s H E) body t ∧ t { nx := fun _ H' => Q .non H', rt := Q } (start N vs) H := by
  obtain ⟨R, fp, ds, h1, h2, h3, h4, h5, h6⟩ := h
  have hl : vs.length = n := by rw [h1.length, h5]
  have hk : N.length - vs.length = nl := by omega
  refine ⟨_, hbody ⟨R, H, fp, vs.map some ++ List.replicate nl none⟩, ?_⟩
  refine ⟨[], ds ++ List.replicate nl .un, [], ⟨R, fp, [], Ev.refl h2, ?_, RepL.nil_iff.mpr ⟨rfl, rfl⟩, by simpa using h3, fun b hb => ?_, fun _ _ => ?_⟩, ?_⟩
  · unfold L2.start
    rw [hk]
    exact repS_start h1
  · have hb' : b ∈ fp := by simpa using hb
    exact ⟨(h4 b hb').1, (h4 b hb').2, .inl hb'⟩
  · unfold L2.start
    rw [hk]
  · unfold defM at h6
    cases q : m (ds ++ List.replicate nl .un) with
    | bad => rw [q] at h6; exact h6.elim
    | ex y fs env =>
      rw [q] at h6
      by_cases hm : mk.length ≤ env.length
      · simp only [hm, if_true] at h6
        intro σ' H' cls dd z
        obtain ⟨C, v, e1, rfl, e3, a⟩ := z
        exact h6 H' C v dd e1 e3 (a.leave (by omega) hm)
      · simp only [hm, if_false] at h6
    | ok fl env =>
      rw [q] at h6
      cases fl with
      | bk => exact h6.elim
      | ct => exact h6.elim
      | nx =>
        simp only [outM] at h6
        by_cases hm : mk.length ≤ env.length
        · simp only [hm, if_true] at h6
          exact fun σ' H' a => h6 H' _ ((a.push (d := .non) rfl).leave (by omega) hm)
        · simp only [hm, if_false] at h6
      | rt r =>
        simp only [outM] at h6
        by_cases hm : mk.length ≤ env.length
        · simp only [hm, if_true] at h6
          exact fun σ' H' v a => h6 H' v (a.leave (by omega) hm)
        · simp only [hm, if_false] at h6
/-- the promise of a def with a star: j parameters ahead of it -/
def spStar (K : PySem.W.Frag) (cl : ClT) (mk : List Bool) (j : Nat) (F : List D → Out D) : Sp := fun vs H Q E => ∃ ws rest, vs = ws ++ rest ∧ ws.length = j ∧ rest.length ≤ sizeLine ∧ ∀ p, H p = Option.none → spM K cl mk (j + 1) F (ws ++ [V.ref p]) (upd H p (.tup rest)) Q E
theorem fn_okS {x qual : Str} {st : Stmt} {f : Addr} {fd : FuncData} {N ps : List Str} {pv : Str} {k nl : Nat} {m : M Fl} {cl : ClT} {mk : List Bool} (F : Fun K x qual st f fd) (S : FnScope N (ps ++ [pv]) (defScope st)) (hN : N.length = (ps.length + 1) + nl) (hmk : mk.length ≤ ps.length + 1)
    (hb : ∀ (dV kV doc pm : Value) (an : Option Addr) (cdv ct : Value) (us rest : List Value), us.length = ps.length → bindArgs (PySem.W.fnOf x qual (defArgs st) (defBody st) (defScope st) .none kV doc pm an cdv ct) ⟨us ++ rest, []⟩ = (newTuple rest >>= fun t => pure (ps.zip us ++ [(pv, t)])))
    (hbody : ∀ (cdv : Value) (A : Around) (outer : List Env) (s : Shared) (H : Hp) (E : XK) (e : Ent), Room k (A.deeper (envOfC qual (defScope st) s.heap.objs.size f cdv)) →
      PSs (cxOf (L2.CX P w) P w K mg base N qual (defScope st) f cdv A outer s H E) (defBody st) (tS K ⟨cl, mk, e, fun cls d _ H => E cls d H⟩ m)) :
    FnR P w K mg base (L2.CX P w) (k + 1) f (spStar K cl mk ps.length (defM m nl mk)) := by
  obtain ⟨oc, od, kV, doc, pm, an, cdv, ct, osl, rfl, lk, hcd⟩ := F.ex
  exact StX.fn_star lk hcd S StX.cxUp (hb .none kV doc pm an cdv ct) fun A outer s H vs Q E hr hsp => body_ok hN hmk A outer s H vs Q E (fun e => hbody cdv A outer s H E e hr) hsp
end
section
variable {K : PySem.W.Frag} {c : Cn} {σ : Sl} {H : Hp} {tv us vs : List V} {env td es ds : List D} {v : V} {d : D}
theorem A.swap (a : A K c σ H (us ++ (vs ++ tv)) env (es ++ (ds ++ td))) (h1 : us.length = es.length) (h2 : vs.length = ds.length) : A K c σ H (vs ++ (us ++ tv)) env (ds ++ (es ++ td)) := by
  obtain ⟨R, fs, ft, S⟩ := a
  obtain ⟨f, g, rfl, h3, h4⟩ := S.temps.split h1
  obtain ⟨f2, g2, rfl, h5, h6⟩ := h4.split h2
  exact ⟨R, fs, f2 ++ (f ++ g2), S.perm S.slots (h5.append (h3.append h6)) (List.Perm.append_left _ (perm3 _ _ _)) fun _ _ => rfl⟩
end
def starD (j : Nat) (ds : List D) : List D := ds.take j ++ [mkT (ds.drop j)]
def eCallS (F : List D → Out D) (j : Nat) (m : M (List D)) : M D := bnd m fun ds => if j ≤ ds.length ∧ ds.length ≤ 16777216 then fun env => match F (starD j ds) with
  | .ok r _ => .ok r env
  | .ex x fs _ => .ex x fs env
  | .bad => .bad else fun _ => .bad
section
variable {X : Cx} {c : Cn} {e o : Expr} {es : List Expr} {pos : Pos} {tk : List (Option Nat)} {m : M (List D)} {k j : Nat} {f : Addr} {F : List D → Out D} {x : Str} {p : Pos}
theorem run_fnRS {pins : List (Addr × Obj)} {σ : L2.St} {H : Hp} {s : Shared} {Q : VK} {us : List Value} {vs : List V} {CX : CXT} {sp : Sp} {E : Sl → XK} (Fn : FnR X.prog X.w X.K X.mg X.base CX k f sp) (hr : Room k X.A) (hx : PassesAt CX X σ (E σ)) (I : Inv X pins σ H s) (r : Vals vs us) (h : sp vs H Q (E σ)) :
    wpAny (model X.prog X.w) X.A (call (.ref f) us) (EP X pins σ Q) X.xe s := by
  refine wpAny_call (codeAny_mono (Fn X.A X.stack s H us vs Q (E σ) hr I.env0 r h) fun r s' hq => ?_)
  cases r with
  | error e => exact hx pins H s e s' I hq
  | ok fl =>
    cases fl with
    | ret u => exact I.after hq
    | next => exact False.elim hq
    | brk => exact False.elim hq
    | cont => exact False.elim hq
theorem m_callS (Fn : FnR X.prog X.w X.K X.mg X.base (L2.CX X.prog X.w) k f (spStar X.K c.cl [] j F)) (hr : Room k X.A) (tkW : Takes X c.W) (hg : Gl X x) (hm : X.mg x = some (.ref f)) (hkp : PySem.W.keepIn X.K (.ref f) = true)
    (ha : PA X (e :: es) (tA X.K c tk m)) (hdb : (x == ("__debug__" : Str)) = false := by decide) (he : starEach (e :: es) X.env = (false, eval e X.env) :: starEach es X.env := by rfl) (hpl : (backTo pos (starEach es X.env)).any (·.1) = false := by rfl) :
    PE X (.Call (.Name x p) (e :: es) [] pos) (tM X.K c (eCallS F j m)) := ⟨fun pins s σ H Q I ⟨tv, env, td, a, ok⟩ => by
  refine wpAny_Call_Name_kw (ld_glob I hg hm ?_ hdb)
  refine PySem.W.callWith_K (h₀ := X.base) I.ok.mod.kin hkp (thn (ha.run pos pins s σ H (fun vs H1 => spStar X.K c.cl [] j F vs H1 Q (WE c.W σ)) I ⟨tv, env, td, a, ok.bnd.mono fun ds e1 ok1 H1 vs hl hk a1 => ?_⟩) fun us s2 ⟨vs, H2, I2, r, q⟩ => ⟨I2.kIn, run_fnRS Fn hr (passAt tkW σ) I2 r q⟩) he hpl
  by_cases hc : j ≤ ds.length ∧ ds.length ≤ 16777216
  · rw [if_pos hc] at ok1
    obtain ⟨h1, h2⟩ := hc
    have hla : (vs.take j).length = (ds.take j).length := by simp [hl]
    have hlb : (vs.drop j).length = (ds.drop j).length := by simp [hl]
    refine ⟨vs.take j, vs.drop j, (List.take_append_drop j vs).symm, by simp; omega, by rw [hlb]; simp only [List.length_drop]; exact line_of (by omega), fun q hq => ?_⟩
    have a2 : A X.K c σ H1 (vs.take j ++ (vs.drop j ++ tv)) e1 (ds.take j ++ (ds.drop j ++ td)) := by
      rw [← List.append_assoc, ← List.append_assoc, List.take_append_drop, List.take_append_drop]
      exact a1
    have a3 := (a2.swap hla hlb).newT hlb hq
    have a4 : A X.K c σ (upd H1 q (.tup (vs.drop j))) ((vs.take j ++ [.ref q]) ++ tv) e1 ((ds.take j ++ [mkT (ds.drop j)]) ++ td) := by
      rw [List.append_assoc, List.append_assoc]
      exact A.swap (us := [.ref q]) (es := [mkT (ds.drop j)]) a3 rfl hla
    refine sp_of (n := j + 1) (mk := []) a4 (by simp [hl]) (by simp; omega) ?_
    show match F (starD j ds) with
      | .ok r ps => _
      | .ex x fs ps => _
      | .bad => _
    cases hF : F (starD j ds) with
    | bad => simp only [hF] at ok1; exact ok1.elim
    | ok r qs =>
      simp only [hF] at ok1
      intro H2 v a5
      refine ok1 H2 v (A.dropMid (vs := []) (ds := []) ?_ rfl)
      have l1 := a5.same_len
      have l2 := a1.same_len
      simp only [List.length_cons, List.length_append, pick, List.length_nil] at l1 l2
      have : qs = [] := List.length_eq_zero_iff.mp (by omega)
      subst this
      simpa [pick] using a5
    | ex y fs qs =>
      simp only [hF] at ok1
      intro H2 C v dd h3 h4 h5 a5
      refine ok1 H2 (.ref C) dd ⟨C, v, h3, rfl, h4, ?_⟩
      have : qs = [] := List.length_eq_zero_iff.mp (by rw [← h5]; simp [pick])
      subst this
      simpa [pick] using a5
  · rw [if_neg hc] at ok1; exact ok1.elim⟩
end
end Pm

namespace Pm
open PySem PySem.Spec PyProof.Rows L2
section
variable {X : Cx} {c : Cn} {e o b : Expr} {es : List Expr} {f g : M D} {pos p : Pos} {tk : List (Option Nat)} {m : M (List D)} {x fl : Str} {js : List (Nat × Nat)}
/-- a name whose thing is not needed in its slot any more -/
theorem m_take (i : Nat) (hN : X.N[i]? = some x := by rfl) (hv : Vis X.env.scope x := by first | exact Or.inl rfl | exact Or.inr (Or.inl rfl) | exact Or.inr (Or.inr rfl)) (hd : (x == ("__debug__" : Str)) = false := by decide) (hcd : (x == ("__classdict__" : Str)) = false := by decide) : PE X (.Name x p) (tM X.K c (eTk i)) :=
  (pe_var hN hv hd hcd).imp fun σ H Q ⟨tv, env, td, a, ok⟩ => by
    unfold eTk at ok
    cases q : getV i env with
    | none => rw [q] at ok; exact ok.elim
    | some d =>
      rw [q] at ok
      obtain ⟨q1, q2⟩ := getV_some q
      obtain ⟨v, e1, a1⟩ := a.takeS q1 q2
      exact ⟨v, e1, ok H v a1⟩
/-- a constant of the module -/
theorem m_con {d : D} {v : V} (hg : Gl X x) (h : ∃ u, X.mg x = some u ∧ RelV v u) (e : sv d = some v) (hd : (x == ("__debug__" : Str)) = false := by decide) : PE X (.Name x p) (tM X.K c (eC d)) := by
  obtain ⟨u, hm, r⟩ := h
  exact (pe_glob hg hm r hd).imp fun σ H Q ⟨tv, env, td, a, ok⟩ => ok H _ (a.push e)
/-- x[e]; is the part an own thing, x is shared -/
def ixW (i : Nat) (k : D) : M D := fun env => match getV i env with
  | some d => match ixD d k with
    | some r => if isO r then (match ixD (freeze d) k with
      | some r' => .ok r' (env.set i (freeze d))
      | none => .bad) else .ok r env
    | none => .bad
  | none => .bad
def eIxW (i : Nat) (g : M D) : M D := bnd (hasV i) fun _ => bnd g fun k => ixW i k
theorem keyInt {d k r : D} (h : ixD d k = some r) : ∃ ii, k = .int ii := by
  cases k <;> first | exact ⟨_, rfl⟩ | (simp [ixD] at h; done)
theorem m_ixW (i : Nat) (hN : X.N[i]? = some x) (hv : Vis X.env.scope x) (hb : PE X b (tM X.K c g)) (hs : PlainIx b) (hd : (x == ("__debug__" : Str)) = false := by decide) (hcd : (x == ("__classdict__" : Str)) = false := by decide) :
    PE X (.Subscript (.Name x p) b pos) (tM X.K c (eIxW i g)) := (pe_ix ix_seq (pe_var hN hv hd hcd) hb hs).imp fun σ H Q ⟨tv, env, td, a, ok⟩ => by
  obtain ⟨⟨v, hvv⟩, ok1⟩ := ok.hasV a
  refine ⟨v, hvv, tv, env, td, a, ok1.bnd.mono fun k e2 ok2 H2 y a2 => ?_⟩
  unfold ixW at ok2
  cases q0 : getV i e2 with
  | none => rw [q0] at ok2; exact ok2.elim
  | some d =>
    rw [q0] at ok2
    simp only at ok2
    obtain ⟨q1, q2⟩ := getV_some q0
    cases q4 : ixD d k with
    | none => rw [q4] at ok2; exact ok2.elim
    | some r =>
      rw [q4] at ok2
      simp only at ok2
      obtain ⟨ii, rfl⟩ := keyInt q4
      have := a2.sv rfl
      subst this
      cases q5 : isO r with
      | true =>
        simp only [q5, if_true] at ok2
        cases q6 : ixD (freeze d) (.int ii) with
        | none => rw [q6] at ok2; exact ok2.elim
        | some r' =>
          rw [q6] at ok2
          simp only at ok2
          obtain ⟨v', e1, a3⟩ := a2.pop.share q1 q2
          rw [hvv] at e1
          cases e1
          exact mI_ix (a3.push (d := .int ii) rfl) q6 fun H' w a4 => ok2 H' w a4
      | false =>
        simp only [q5] at ok2
        have q4' := q4
        unfold ixD at q4
        simp only at q4
        have key : ∀ l, seqOf d = some l → atI l ii = some r → rIx X.K v (.int ii) H2 Q := fun l hl hat => by
          obtain ⟨j, e1, e3⟩ := atI_j hat
          obtain ⟨pp, vs, w, h1, h2, h3, h4, a3⟩ := a2.pop.slotItem q1 q2 hl e3 q5
          rw [hvv] at h1
          cases h1
          rcases h3 with ⟨_, h3⟩ | ⟨_, h3⟩
          · exact .inl ⟨pp, vs, ii, w, rfl, rfl, h3, atI_of e1 h2 h4, ok2 H2 w a3⟩
          · exact .inr (.inl ⟨pp, vs, ii, w, rfl, rfl, h3, atI_of e1 h2 h4, ok2 H2 w a3⟩)
        cases h1 : lstOf d with
        | some l =>
          rw [h1] at q4
          exact key l (by unfold seqOf; cases d <;> simp only [lstOf] at h1 <;> cases h1 <;> rfl) q4
        | none =>
          rw [h1] at q4
          cases h2 : tupOf d with
          | some l =>
            rw [h2] at q4
            exact key l (by unfold seqOf; rw [h2]) q4
          | none =>
            rw [h2] at q4
            cases d <;> try (simp at q4; done)
            rename_i z
            simp only at q4
            by_cases hz : z.length ≤ 16777216
            · rw [if_pos hz] at q4
              cases h3 : atI z.cps.toList ii with
              | none => rw [h3] at q4; cases q4
              | some ch =>
                rw [h3] at q4
                cases q4
                obtain ⟨v', R, f', e1, h5, _⟩ := a2.pop.slot q1 q2
                rw [hvv] at e1
                cases e1
                obtain ⟨rfl, _⟩ := h5.sv (v := .str z) rfl
                exact .inr (.inr ⟨z, ii, ch, rfl, rfl, line_of hz, h3, ok2 H2 _ (a2.pop.push rfl)⟩)
            · rw [if_neg hz] at q4; cases q4
/-- x.f; is the field an own thing, x is shared -/
def eAtW (i : Nat) (js : List (Nat × Nat)) : M D := fun env => match getV i env with
  | some d => match atD js d with
    | some r => if isO r then (match atD js (freeze d) with
      | some r' => .ok r' (env.set i (freeze d))
      | none => .bad) else .ok r env
    | none => .bad
  | none => .bad
theorem m_atW (i : Nat) (T : AtOk X.K c.cl js fl) (hN : X.N[i]? = some x) (hv : Vis X.env.scope x) (hb : attributeBase (.Name x p) fl X.env (eval (.Name x p) X.env) = eval (.Name x p) X.env := by rfl) (hd : (x == ("__debug__" : Str)) = false := by decide) (hcd : (x == ("__classdict__" : Str)) = false := by decide) :
    PE X (.Attribute (.Name x p) fl pos) (tM X.K c (eAtW i js)) := (pe_fld (pe_var hN hv hd hcd) hb).imp fun σ H Q ⟨tv, env, td, a, ok⟩ => by
  unfold eAtW at ok
  cases q : getV i env with
  | none => rw [q] at ok; exact ok.elim
  | some d =>
    rw [q] at ok
    simp only at ok
    obtain ⟨q1, q2⟩ := getV_some q
    cases q3 : atD js d with
    | none => rw [q3] at ok; exact ok.elim
    | some r =>
      rw [q3] at ok
      simp only at ok
      cases q4 : isO r with
      | true =>
        simp only [q4, if_true] at ok
        cases q5 : atD js (freeze d) with
        | none => rw [q5] at ok; exact ok.elim
        | some r' =>
          rw [q5] at ok
          simp only at ok
          obtain ⟨v, e1, a1⟩ := a.share q1 q2
          obtain ⟨pp, C, dx, fs, w, h1, h2, h3, h4, h5, a2⟩ := a1.atD T q5
          exact ⟨v, e1, pp, C, dx, fs, w, h1, h2, h3, h4, h5, ok H w a2⟩
      | false =>
        simp only [q4] at ok
        obtain ⟨pp, C, dx, fs, w, h1, h2, h3, h4, h5, a1⟩ := a.atV T q1 q2 q3 q4
        exact ⟨_, h1, pp, C, dx, fs, w, rfl, h2, h3, h4, h5, ok H w a1⟩
end
/-! ### a def that is never to be called -/
theorem fn_bad {P : Program} {w : World} {K : PySem.W.Frag} {mg : Str → Option Value} {base : Heap} {CX : CXT} {k n : Nat} {f : Addr} {fd : FuncData} {ps : List Str} {cl : ClT} {mk : List Bool} : FnOk P w K mg base CX k f fd ps (spM K cl mk n fun _ => .bad) :=
  ⟨fun vs H Q E h => by obtain ⟨R, fp, ds, _, _, _, _, _, h⟩ := h; exact h.elim, fun A outer s H args us vs Q E hr he hb hv h => by obtain ⟨R, fp, ds, _, _, _, _, _, h⟩ := h; exact h.elim⟩
/-! ### the law -/
def spLaw (K : PySem.W.Frag) : Sp := fun vs H Q _ => ∃ (a : Addr) (ns : List Int), vs = [.ref a] ∧ SqL K H a (ns.map V.int) ∧ ns.length ≤ 63 ∧ ∀ H', Q (.bl true) H'
def intsD (ns : List Int) : D := .lst (ns.map D.int)
theorem rep_ints {K : PySem.W.Frag} {cl : ClT} {R H : Hp} : ∀ ns : List Int, RepL K cl R H [] (ns.map V.int) (ns.map D.int)
  | [] => RepL.nil_iff.mpr ⟨rfl, rfl⟩
  | n :: ns => RepL.cons (f := []) (by simp only [Rep]; exact ⟨trivial, trivial⟩) (rep_ints ns)
theorem law_sp {P : Program} {w : World} {K : PySem.W.Frag} {mg : Str → Option Value} {base : Heap} {CX : CXT} {k : Nat} {f : Addr} {fd : FuncData} {ps : List Str} {cl : ClT} {F : List D → Out D} (G : FnOk P w K mg base CX k f fd ps (spM K cl [] 1 F))
    (h : ∀ ns : List Int, ns.length ≤ 63 → F [intsD ns] = .ok (.bl true) []) : FnOk P w K mg base CX k f fd ps (spLaw K) := G.imp fun vs H Q E ⟨a, ns, e, hs, hl, q⟩ => by
  subst e
  refine ⟨H, [], [intsD ns], RepL.cons (f := []) (g := []) (by simp only [intsD, Rep]; exact ⟨trivial, a, _, rfl, hs, rep_ints ns⟩) (RepL.nil_iff.mpr ⟨rfl, rfl⟩), Same.refl H, List.nodup_nil, (fun _ z => nomatch z), rfl, ?_⟩
  rw [h ns hl]
  intro H1 v a1
  have := a1.sv rfl
  subst this
  exact q H1
theorem cx_no {P : Program} {w : World} {H : Hp} {s : Shared} {e : Value} {s' : Shared} : L2.CX P w [] H s (fun _ _ _ => False) e s' → False := by
  rintro ⟨a, B, H', cls, d, ea, fl, hok, ub, na, os, ag, he⟩
  exact he.elim
theorem walk {l : PySem.W.OpenLaw} {q : Program} {loose : List Str} {XP : (Str → Option Value) → Heap → Prop} {YP : World → Heap → Prop} {d : DefRec} {K : Params → PySem.W.Frag} {k : Nat} (hn : l.most = some 63) (hdf : d.params.defaults = []) (hr : Room k callerA)
    (hY : ∀ (w : World) (h : Heap), YP w h → (K w.params).In h)
    (F : ∀ (w : World) (mg : Str → Option Value) (fa : Addr) (h : Heap), (K w.params).In h → h.Ns mainGlobals mg → mg d.name = some (.ref fa) →
      ∃ fd : FuncData, (∀ (s : Shared) (u : Value), BindsTo s fd ⟨[u], []⟩ [("script", u)]) ∧ ∀ base : Heap, (K w.params).In base → base.Ns mainGlobals mg → FnOk l.prog w (K w.params) mg base (L2.CX l.prog w) k fa fd ["script"] (spLaw (K w.params))) :
    PySem.W.WalkO q loose XP YP l.row.toRowW d [] (fun f vs => PySem.call f vs) :=
  L2.walk_of (n := 63) (k := k) (x := "script") (CX := fun w => L2.CX l.prog w) (sp := fun w => spLaw (K w.params)) hn (by decide) hdf hr hY F (fun _ _ a ns hl _ hS => ⟨a, ns, rfl, hS, hl, fun _ => rfl⟩) fun _ _ _ _ _ z => cx_no z
end Pm

namespace Pm
open PySem PySem.Spec PyProof.Rows L2
/-! ### by cases on the state -/
def eCase {α : Type} (p : List D → Bool) (f g : M α) : M α := fun env => if p env then f env else g env
def isC (i q : Nat) (env : List D) : Bool := match env[i]? with
  | some d => match insOf d with
    | some (c, _) => c == q
    | none => false
  | none => false
theorem m_case {X : Cx} {c : Cn} {e : Expr} {f g : M D} (p : List D → Bool) (h1 : PE X e (tM X.K c f)) (h2 : PE X e (tM X.K c g)) : PE X e (tM X.K c (eCase p f g)) := ⟨fun pins s σ H Q I ⟨tv, env, td, a, ok⟩ => by
  unfold eCase at ok
  cases q : p env with
  | true => rw [q] at ok; exact h1.run pins s σ H Q I ⟨tv, env, td, a, by simpa using ok⟩
  | false => rw [q] at ok; exact h2.run pins s σ H Q I ⟨tv, env, td, a, by simpa using ok⟩⟩
section
variable {X : Cx} {c : Cn} {a : Expr} {f : M D} {pos pos' : Pos} {j : Nat}
theorem t_isN (ha : PE X a (tM X.K c f)) : PT X (.Compare a [.Is] [.Constant .none j pos'] pos) (tT X.K c (qB (eIsN f))) := (pt_cmp (pc_isN ha)).imp fun σ H Q h => by
  obtain ⟨tv, env, td, a, ok⟩ := test h
  exact ⟨tv, env, td, a, ok.bnd.mono fun d e ok1 H1 x a1 => by
    obtain ⟨b, eb, ok2⟩ := ok1.lftb
    rw [a1.isN eb]
    exact ok2 H1 _ (a1.pop.push rfl)⟩
theorem t_notN (ha : PE X a (tM X.K c f)) : PT X (.Compare a [.IsNot] [.Constant .none j pos'] pos) (tT X.K c (qB (eNotN f))) := (pt_cmp (pc_notN ha)).imp fun σ H Q h => by
  obtain ⟨tv, env, td, a, ok⟩ := test h
  exact ⟨tv, env, td, a, ok.bnd.mono fun d e ok1 H1 x a1 => by
    obtain ⟨b, eb, ok2⟩ := ok1.lftb
    rw [a1.isN eb]
    exact ok2 H1 _ (a1.pop.push rfl)⟩
end
/-! ### small tools for the printed texts -/
theorem hu64 {A : Around} {k : Nat} (hr : Room k A) : A.units + 64 < cLine := by have := hr.un; omega
theorem hm_of {l : List Nat} {mk : List Bool} (h : l.all (fun i => !mk.getD i false) = true) : ∀ i ∈ l, mk.getD i false = false := fun i hi => by
  have := List.all_eq_true.mp h i hi
  simpa using this
theorem hsl_of {l m : List Nat} (h : l.all (fun i => m.contains i) = true) : ∀ i ∈ l, i ∈ m := fun i hi => by
  have := List.all_eq_true.mp h i hi
  simpa using this
section
variable {K : PySem.W.Frag} {cl : ClT} {f : Str}
theorem at_nil : AtOk K cl [] f := ⟨fun c j h => by cases h⟩
theorem at_cons {q j : Nat} {C : Addr} {js : List (Nat × Nat)} (hC : cl.ad q = some C) (c : Cls K C) (n : NoAttr K C f) (h : (cl.fl q)[j]? = some f) (nd : (cl.fl q).Nodup) (r : AtOk K cl js f) : AtOk K cl ((q, j) :: js) f := ⟨fun c' j' e => by
  rw [List.lookup_cons] at e
  by_cases z : c' = q
  · subst z
    simp at e
    subst e
    exact ⟨fun C' e' => by rw [hC] at e'; cases e'; exact ⟨c, n⟩, h, nd⟩
  · rw [show (c' == q) = false by simpa using z] at e
    exact r.ok c' j' e⟩
def kitBs (a : String) : List String → Option Bool
  | [] => some false
  | b :: bs => match L2.kitB a b with
    | some true => some true
    | some false => kitBs a bs
    | none => none
theorem kitBs_ok {a : String} : ∀ {bs : List String} {r : Bool}, kitBs a bs = some r → PySem.W.kitAny K (.type a) (bs.map Value.type) = some r
  | [], r, h => h
  | b :: bs, r, h => by
    unfold kitBs at h
    cases q : L2.kitB a b with
    | none => rw [q] at h; cases h
    | some t =>
      rw [q] at h
      cases t with
      | true => exact kitAny_cons (kit_ty q) (fun z => by cases z) (fun _ => by cases h; rfl)
      | false => exact kitAny_cons (kit_ty q) (fun _ => kitBs_ok h) (fun z => by cases z)
theorem is_all {P : Value → Bool → Prop} {tb : TbI} (hb : ∀ p ∈ tb.b, P (.type p.1) p.2) (hc : ∀ p ∈ tb.c, ∀ C, cl.ad p.1 = some C → C8.InsC K C ∧ P (.ref C) p.2) : IsOk K cl P tb := ⟨hb, hc⟩
theorem all_nil {α : Type} {P : α → Prop} : ∀ p ∈ ([] : List α), P p := fun _ h => nomatch h
theorem all_cons {α : Type} {P : α → Prop} {a : α} {l : List α} (h : P a) (r : ∀ p ∈ l, P p) : ∀ p ∈ a :: l, P p := fun p hp => by
  rcases List.mem_cons.mp hp with rfl | hp
  · exact h
  · exact r p hp
theorem of_ad {q : Nat} {C : Addr} {Q : Addr → Prop} (hC : cl.ad q = some C) (h : Q C) : ∀ C', cl.ad q = some C' → Q C' := fun C' e => by
  rw [hC] at e
  cases e
  exact h
end
end Pm

namespace Pm
open PySem PySem.Spec PyProof.Rows L2
/-! ### the mirrors run: a weakest precondition, by steps -/
abbrev XP := Nat → List D → List D → Prop
def wpD {α : Type} (m : M α) (env : List D) (P : α → List D → Prop) (X : XP) : Prop := match m env with
  | .ok a e => P a e
  | .ex c fs e => X c fs e
  | .bad => False
structure wp {α : Type} (m : M α) (env : List D) (P : α → List D → Prop) (X : XP) : Prop where
  run : wpD m env P X
def optD {α : Type} (o : Option α) (k : α → Prop) : Prop := match o with
  | some a => k a
  | none => False
structure opt {α : Type} (o : Option α) (k : α → Prop) : Prop where
  run : optD o k
theorem opt_iff {α : Type} {o : Option α} {k : α → Prop} : opt o k = optD o k := propext ⟨fun h => h.run, fun h => ⟨h⟩⟩
def fFD (o : Out D) (k : D → List D → Prop) (X : XP) : Prop := match o with
  | .ok r ps => k r ps
  | .ex c fs ps => X c fs ps
  | .bad => False
structure fF (o : Out D) (k : D → List D → Prop) (X : XP) : Prop where
  run : fFD o k X
theorem fF_iff {o : Out D} {k : D → List D → Prop} {X : XP} : fF o k X = fFD o k X := propext ⟨fun h => h.run, fun h => ⟨h⟩⟩
def gv (i : Nat) (env : List D) (k : D → Prop) : Prop := opt (getV i env) k
def gi (i : Nat) (env : List D) (k : D → Prop) : Prop := opt env[i]? k
def st (i : Nat) (x : D) (env : List D) (k : List D → Prop) : Prop := k (env.set i x)
def frz (d : D) (k : D → Prop) : Prop := k (freeze d)
def brD (b : Bool) (A B : Prop) : Prop := if b then A else B
structure br (b : Bool) (A B : Prop) : Prop where
  run : brD b A B
theorem br_iff {b : Bool} {A B : Prop} : br b A B = brD b A B := propext ⟨fun h => h.run, fun h => ⟨h⟩⟩
def pbk (tk : List (Option Nat)) (ds : List D) (env : List D) (k : List D → Prop) : Prop := k (putB (ids tk) (pick (tk.map Option.isSome) ds) env)
def pbc (tk : List (Option Nat)) (ps : List D) (env : List D) (k : List D → Prop) : Prop := k (putB (ids tk) ps env)
section
variable {α β : Type} {env l : List D} {X : XP} {d : D} {i n : Nat}
theorem opt_some {a : α} {k : α → Prop} (h : k a) : opt (some a) k := ⟨h⟩
theorem opt_mono {o : Option α} {k k' : α → Prop} (h : opt o k) (f : ∀ a, k a → k' a) : opt o k' := by
  cases o with
  | some a => exact ⟨f a h.run⟩
  | none => exact h.run.elim
theorem br_mono {b : Bool} {A A' B B' : Prop} (h : br b A B) (f : A → A') (g : B → B') : br b A' B' := by
  cases b
  · exact ⟨g h.run⟩
  · exact ⟨f h.run⟩
theorem opt_of {o : Option α} {a : α} {k : α → Prop} (e : o = some a) (h : k a) : opt o k := by rw [e]; exact ⟨h⟩
theorem fF_of {o : Out D} {r : D} {ps : List D} {k : D → List D → Prop} (e : o = .ok r ps) (h : k r ps) : fF o k X := by rw [e]; exact ⟨h⟩
theorem fF_ex {o : Out D} {c : Nat} {fs ps : List D} {k : D → List D → Prop} (e : o = .ex c fs ps) (h : X c fs ps) : fF o k X := by rw [e]; exact ⟨h⟩
theorem wp_of {m : M α} {a : α} {e : List D} {P : α → List D → Prop} (h : m env = .ok a e) (k : P a e) : wp m env P X := ⟨by unfold wpD; rw [h]; exact k⟩
theorem wp_get {m : M α} {a : α} {e : List D} (h : wp m env (fun a' e' => a' = a ∧ e' = e) fun _ _ _ => False) : m env = .ok a e := by
  replace h := h.run
  unfold wpD at h
  cases q : m env with
  | ok a' e' => rw [q] at h; obtain ⟨rfl, rfl⟩ := h; rfl
  | ex c fs e' => rw [q] at h; exact h.elim
  | bad => rw [q] at h; exact h.elim
theorem wp_mono {m : M α} {P P' : α → List D → Prop} (h : wp m env P X) (k : ∀ a e, P a e → P' a e) : wp m env P' X := by
  replace h := h.run
  refine ⟨?_⟩
  unfold wpD at h ⊢
  cases q : m env with
  | ok a' e' => rw [q] at h; exact k _ _ h
  | ex c fs e' => rw [q] at h; exact h
  | bad => rw [q] at h; exact h
theorem wp_bnd {m : M α} {k : α → M β} {P : β → List D → Prop} (h : wp m env (fun a e => wp (k a) e P X) X) : wp (bnd m k) env P X := by
  replace h := h.run
  refine ⟨?_⟩
  unfold wpD bnd at *
  cases q : m env with
  | ok a e => rw [q] at h; exact h.run
  | ex c fs e => rw [q] at h; exact h
  | bad => rw [q] at h; exact h
theorem wp_ret {a : α} {P : α → List D → Prop} (h : P a env) : wp (Pm.ret a) env P X := ⟨h⟩
theorem wp_lft {o : Option α} {P : α → List D → Prop} (h : opt o fun a => P a env) : wp (lft o) env P X := by
  cases o with
  | some a => exact ⟨h.run⟩
  | none => exact h.run.elim
variable {P : D → List D → Prop} {f g : M D} {m : M (List D)} {Q : Bool → List D → Prop} {p q : M Bool} {R : List D → List D → Prop}
theorem wp_eC (h : P d env) : wp (eC d) env P X := ⟨h⟩
theorem wp_eV (h : gv i env fun d => frz d fun d' => st i d' env fun e => P d' e) : wp (eV i) env P X := by
  refine ⟨?_⟩
  unfold wpD eV
  unfold gv at h
  simp only [opt_iff] at h
  unfold optD frz st at h
  cases z : getV i env with
  | some d => rw [z] at h; exact h
  | none => rw [z] at h; exact h
theorem wp_eTk (h : gv i env fun d => st i .un env fun e => P d e) : wp (eTk i) env P X := by
  refine ⟨?_⟩
  unfold wpD eTk
  unfold gv at h
  simp only [opt_iff] at h
  unfold optD st at h
  cases z : getV i env with
  | some d => rw [z] at h; exact h
  | none => rw [z] at h; exact h
theorem wp_eBin {op : D → D → Option D} (h : wp f env (fun a e => wp g e (fun b e => opt (op a b) fun r => P r e) X) X) : wp (eBin op f g) env P X :=
  wp_bnd (wp_mono h fun a e h1 => wp_bnd (wp_mono h1 fun b e2 h2 => wp_lft h2))
theorem wp_eUn {op : D → Option D} (h : wp f env (fun a e => opt (op a) fun r => P r e) X) : wp (eUn op f) env P X := wp_bnd (wp_mono h fun a e h1 => wp_lft h1)
theorem wp_eAt {js : List (Nat × Nat)} (h : wp f env (fun a e => opt (atD js a) fun r => P r e) X) : wp (eAt js f) env P X := wp_bnd (wp_mono h fun a e h1 => wp_lft h1)
theorem wp_eFz (h : wp f env (fun a e => frz a fun r => P r e) X) : wp (eFz f) env P X := wp_bnd (wp_mono h fun a e h1 => ⟨h1⟩)
theorem wp_eB {op : List D → Option D} {tk : List (Option Nat)} (h : wp m env (fun ds e => opt (op ds) fun d => pbk tk ds e fun e' => P d e') X) : wp (eB op tk m) env P X :=
  wp_bnd (wp_mono h fun ds e h1 => by
    refine ⟨?_⟩
    unfold wpD
    simp only [opt_iff] at h1
    unfold optD pbk at h1
    cases z : op ds with
    | some d => rw [z] at h1; exact h1
    | none => rw [z] at h1; exact h1)
theorem wp_eCall {F : List D → Out D} {tk : List (Option Nat)} (h : wp m env (fun ds e => fF (F ds) (fun r ps => pbc tk ps e fun e' => P r e') (fun c fs ps => pbc tk ps e fun e' => X c fs e')) X) : wp (eCall F (ids tk) m) env P X :=
  wp_bnd (wp_mono h fun ds e h1 => by
    refine ⟨?_⟩
    unfold wpD
    simp only [fF_iff] at h1
    unfold fFD pbc at h1
    cases z : F ds with
    | ok r ps => rw [z] at h1; exact h1
    | ex c fs ps => rw [z] at h1; exact h1
    | bad => rw [z] at h1; exact h1)
theorem wp_eCallS {F : List D → Out D} {j : Nat} (h : wp m env (fun ds e => (j ≤ ds.length ∧ ds.length ≤ 16777216) ∧ fF (F (starD j ds)) (fun r _ => P r e) (fun c fs _ => X c fs e)) X) : wp (eCallS F j m) env P X :=
  wp_bnd (wp_mono h fun ds e h1 => by
    refine ⟨?_⟩
    unfold wpD
    rw [if_pos h1.1]
    have h2 := h1.2
    simp only [fF_iff] at h2
    unfold fFD at h2
    cases z : F (starD j ds) with
    | ok r ps => rw [z] at h2; exact h2
    | ex c fs ps => rw [z] at h2; exact h2
    | bad => rw [z] at h2; exact h2)
theorem wp_aNil (h : R [] env) : wp aNil env R X := ⟨h⟩
theorem wp_aCons (h : wp f env (fun d e => wp m e (fun ds e => R (d :: ds) e) X) X) : wp (aCons f m) env R X := wp_bnd (wp_mono h fun a e h1 => wp_bnd (wp_mono h1 fun b e2 h2 => ⟨h2⟩))
def mkt (ds : List D) (k : D → Prop) : Prop := k (mkT ds)
theorem mkt_t {ds : List D} {k : D → Prop} (c : ds.all (fun d => !isO d) = true) (h : k (.tup ds)) : mkt ds k := by unfold mkt mkT; rw [if_pos c]; exact h
theorem mkt_o {ds : List D} {k : D → Prop} (c : ds.all (fun d => !isO d) = false) (h : k (.otup ds)) : mkt ds k := by unfold mkt mkT; rw [c]; exact h
theorem wp_eTup (h : wp m env (fun ds e => ds.length ≤ 16777216 ∧ mkt ds fun r => P r e) X) : wp (eTup m) env P X := wp_bnd (wp_mono h fun a e h1 => by
  refine wp_bnd (wp_lft ?_)
  rw [if_pos h1.1]
  exact ⟨⟨h1.2⟩⟩)
theorem wp_eLst (h : wp m env (fun ds e => ds.length ≤ 16777216 ∧ P (.olst ds) e) X) : wp (eLst m) env P X := wp_bnd (wp_mono h fun a e h1 => by
  refine wp_bnd (wp_lft ?_)
  rw [if_pos h1.1]
  exact ⟨⟨h1.2⟩⟩)
theorem wp_ite {b : Bool} {m1 m2 : M α} {P : α → List D → Prop} (h : br b (wp m1 env P X) (wp m2 env P X)) : wp (if b then m1 else m2) env P X := by
  cases b <;> exact h.run
theorem wp_eIf (h : wp p env (fun b e => br b (wp f e P X) (wp g e P X)) X) : wp (eIf p f g) env P X := wp_bnd (wp_mono h fun b e h1 => wp_ite h1)
theorem wp_eAnd (h : wp f env (fun d e => opt (toB d) fun b => br b (wp g e P X) (P (.bl false) e)) X) : wp (eAnd f g) env P X := wp_bnd (wp_mono h fun b e h1 => wp_bnd (wp_lft (by
  simp only [opt_iff] at *
  unfold optD at *
  cases z : toB b with
  | none => rw [z] at h1; exact h1
  | some t => rw [z] at h1; exact wp_ite (br_mono h1 (fun h => h) fun h => ⟨h⟩))))
theorem wp_eOr (h : wp f env (fun d e => opt (toB d) fun b => br b (P (.bl true) e) (wp g e P X)) X) : wp (eOr f g) env P X := wp_bnd (wp_mono h fun b e h1 => wp_bnd (wp_lft (by
  simp only [opt_iff] at *
  unfold optD at *
  cases z : toB b with
  | none => rw [z] at h1; exact h1
  | some t => rw [z] at h1; exact wp_ite (br_mono h1 (fun h => ⟨h⟩) fun h => h))))
theorem wp_eNot (h : wp f env (fun d e => opt (toB d) fun b => P (.bl (!b)) e) X) : wp (eNot f) env P X := wp_bnd (wp_mono h fun b e h1 => wp_bnd (wp_lft (opt_mono h1 fun _ h => ⟨h⟩)))
theorem wp_eIsN (h : wp f env (fun d e => opt (isN d) fun b => P (.bl b) e) X) : wp (eIsN f) env P X := wp_bnd (wp_mono h fun b e h1 => wp_bnd (wp_lft (opt_mono h1 fun _ h => ⟨h⟩)))
theorem wp_eNotN (h : wp f env (fun d e => opt (isN d) fun b => P (.bl (!b)) e) X) : wp (eNotN f) env P X := wp_bnd (wp_mono h fun b e h1 => wp_bnd (wp_lft (opt_mono h1 fun _ h => ⟨h⟩)))
theorem wp_eIsi {tb : TbI} (h : wp f env (fun d e => opt (isiD tb d) fun b => P (.bl b) e) X) : wp (eIsi tb f) env P X := wp_bnd (wp_mono h fun b e h1 => wp_bnd (wp_lft (opt_mono h1 fun _ h => ⟨h⟩)))
theorem wp_eM1 {gd : Str → Str → D} (h : wp f env (fun d e => opt (strOf d) fun a => wp g e (fun d e => opt (strOf d) fun b => P (gd a b) e) X) X) : wp (eM1 gd f g) env P X := wp_bnd (wp_mono h fun b e h1 => wp_bnd (wp_lft (by
  simp only [opt_iff] at *
  unfold optD at *
  cases z : strOf b with
  | none => rw [z] at h1; exact h1
  | some t => rw [z] at h1; exact wp_bnd (wp_mono h1 fun c e2 h2 => wp_bnd (wp_lft (opt_mono (opt_iff.mpr h2) fun _ h => ⟨h⟩))))))
theorem wp_eChain {op op' : D → D → Option D} {h' : M D} (h : wp f env (fun a e => wp g e (fun b e => opt (op a b) fun t => opt (toB t) fun k => br k (wp h' e (fun w e => opt (sv b) fun _ => opt (op' b w) fun r => P r e) X) (P (.bl false) e)) X) X) : wp (eChain op op' f g h') env P X :=
  wp_bnd (wp_mono h fun a e h1 => wp_bnd (wp_mono h1 fun b e2 h2 => wp_bnd (wp_lft (by
    simp only [opt_iff] at *
    unfold optD at *
    cases z : op a b with
    | none => rw [z] at h2; exact h2
    | some t =>
      rw [z] at h2
      refine wp_bnd (wp_lft ?_)
      simp only [opt_iff] at *
      unfold optD at *
      simp only at h2 ⊢
      cases z2 : toB t with
      | none => rw [z2] at h2; exact h2
      | some k =>
        rw [z2] at h2
        refine wp_ite ?_
        simp only [br_iff] at *
        unfold brD at *
        cases k with
        | false => exact ⟨h2⟩
        | true =>
          simp only [if_true] at h2 ⊢
          refine wp_bnd (wp_mono h2 fun w e3 h3 => ?_)
          cases z3 : sv b with
          | none => rw [z3] at h3; exact h3.elim
          | some v =>
            rw [z3] at h3
            simp only [Option.isSome_some, if_true]
            refine wp_lft ?_
            simp only [opt_iff]
            unfold optD
            exact h3))))
theorem wp_qB (h : wp f env (fun d e => opt (toB d) fun b => Q b e) X) : wp (qB f) env Q X := wp_bnd (wp_mono h fun b e h1 => wp_lft h1)
theorem wp_qT (h : wp f env (fun d e => opt (truD d) fun b => Q b e) X) : wp (qT f) env Q X := wp_bnd (wp_mono h fun b e h1 => wp_lft h1)
theorem wp_qNot (h : wp p env (fun b e => Q (!b) e) X) : wp (qNot p) env Q X := wp_bnd (wp_mono h fun b e h1 => ⟨h1⟩)
theorem wp_qAnd (h : wp p env (fun b e => br b (wp q e Q X) (Q false e)) X) : wp (qAnd p q) env Q X := wp_bnd (wp_mono h fun b e h1 => wp_ite (br_mono h1 (fun h => h) fun h => ⟨h⟩))
theorem wp_qOr (h : wp p env (fun b e => br b (Q true e) (wp q e Q X)) X) : wp (qOr p q) env Q X := wp_bnd (wp_mono h fun b e h1 => wp_ite (br_mono h1 (fun h => ⟨h⟩) fun h => h))
theorem wp_pNo {O : Option Int → List D → Prop} (h : O none env) : wp pNo env O X := ⟨h⟩
theorem wp_pSo {O : Option Int → List D → Prop} (h : wp f env (fun d e => opt (toI d) fun i => O (some i) e) X) : wp (pSo f) env O X := wp_bnd (wp_mono h fun b e h1 => wp_bnd (wp_lft (opt_mono h1 fun _ h => ⟨h⟩)))
theorem wp_eSl {lo hi : M (Option Int)} (h : wp f env (fun d e => wp lo e (fun l e => wp hi e (fun u e => opt (slD d l u) fun r => P r e) X) X) X) : wp (eSl f lo hi) env P X :=
  wp_bnd (wp_mono h fun a e h1 => wp_bnd (wp_mono h1 fun b e2 h2 => wp_bnd (wp_mono h2 fun c e3 h3 => wp_lft h3)))
theorem wp_eIxW (h : gv i env fun _ => wp g env (fun k e => gv i e fun d => opt (ixD d k) fun r => br (isO r) (frz d fun d' => opt (ixD d' k) fun r' => st i d' e fun e' => P r' e') (P r e)) X) : wp (eIxW i g) env P X := by
  refine wp_bnd ?_
  refine ⟨?_⟩
  unfold wpD hasV
  unfold gv at h
  simp only [opt_iff] at h
  unfold optD at h
  cases z : getV i env with
  | none => rw [z] at h; exact h
  | some d =>
    rw [z] at h
    refine wp_bnd (wp_mono h fun k e h1 => ?_)
    first | unfold gv at h1 | skip
    simp only [opt_iff, br_iff] at h1
    first | (unfold optD at h1) | skip
    unfold brD frz st at h1
    refine ⟨?_⟩
    unfold wpD ixW
    cases z1 : getV i e with
    | none => rw [z1] at h1; exact h1
    | some d1 =>
      rw [z1] at h1
      simp only [opt_iff] at h1
      (first | (unfold optD at h1) | skip)
      simp only at h1 ⊢
      cases z2 : ixD d1 k with
      | none => rw [z2] at h1; exact h1
      | some r =>
        rw [z2] at h1
        simp only at h1 ⊢
        cases z3 : isO r with
        | false => simp only [z3] at h1 ⊢; exact h1
        | true =>
          simp only [z3, if_true] at h1 ⊢
          cases z4 : ixD (freeze d1) k with
          | none => rw [z4] at h1; exact h1
          | some r' => rw [z4] at h1; exact h1
theorem wp_eAtW {js : List (Nat × Nat)} (h : gv i env fun d => opt (atD js d) fun r => br (isO r) (frz d fun d' => opt (atD js d') fun r' => st i d' env fun e' => P r' e') (P r env)) : wp (eAtW i js) env P X := by
  unfold gv at h
  simp only [opt_iff, br_iff] at h
  unfold optD brD frz st at h
  refine ⟨?_⟩
  unfold wpD eAtW
  cases z1 : getV i env with
  | none => rw [z1] at h; exact h
  | some d1 =>
    rw [z1] at h
    simp only [opt_iff] at h
    first | (unfold optD at h) | skip
    simp only at h ⊢
    cases z2 : atD js d1 with
    | none => rw [z2] at h; exact h
    | some r =>
      rw [z2] at h
      simp only at h ⊢
      cases z3 : isO r with
      | false => simp only [z3] at h ⊢; exact h
      | true =>
        simp only [z3, if_true] at h ⊢
        cases z4 : atD js (freeze d1) with
        | none => rw [z4] at h; exact h
        | some r' => rw [z4] at h; exact h
theorem wp_eCase {c : List D → Bool} {m1 m2 : M α} {P : α → List D → Prop} (h : br (c env) (wp m1 env P X) (wp m2 env P X)) : wp (eCase c m1 m2) env P X := by
  simp only [br_iff] at h
  unfold brD at h
  refine ⟨?_⟩
  unfold wpD eCase
  cases z : c env <;> rw [z] at h <;> exact h.run
def mkP (tk : List (Option Nat)) (P : D → List D → Prop) (e : List D) (r : D) (ps : List D) : Prop := r = .non ∧ match ps with
  | s :: ps => pbc tk ps e fun e' => P s e'
  | [] => False
def mkX (tk : List (Option Nat)) (X : XP) (e : List D) (c : Nat) (fs : List D) (ps : List D) : Prop := match ps with
  | _ :: ps => pbc tk ps e fun e' => X c fs e'
  | [] => False
theorem mkP_ok {tk : List (Option Nat)} {e ps : List D} {s : D} (h : pbc tk ps e fun e' => P s e') : mkP tk P e .non (s :: ps) := ⟨rfl, h⟩
theorem wp_eMk {c : Nat} {F : List D → Out D} {tk : List (Option Nat)} (h : wp m env (fun ds e => fF (F (.oins c [] :: ds)) (mkP tk P e) (mkX tk X e)) X) : wp (eMk c F tk m) env P X :=
  wp_bnd (wp_mono h fun ds e h1 => by
    refine ⟨?_⟩
    unfold wpD
    unfold mkP mkX at h1
    simp only [fF_iff] at h1
    unfold fFD pbc at h1
    cases z : F (.oins c [] :: ds) with
    | ok r ps =>
      rw [z] at h1
      obtain ⟨rfl, h1⟩ := h1
      cases ps with
      | nil => exact h1
      | cons s ps => exact h1
    | ex c fs ps =>
      rw [z] at h1
      cases ps with
      | nil => exact h1
      | cons s ps => exact h1
    | bad => rw [z] at h1; exact h1)
theorem wp_eMethV {c : Nat} {F : List D → Out D} {tk : List (Option Nat)} (h : gv i env fun d => opt (insOf d) fun x => x.1 = c ∧ st i .un env fun env => wp m env (fun ds e => fF (F (d :: ds)) (fun r ps => pbc (some i :: tk) ps e fun e' => P r e') (fun c fs ps => pbc (some i :: tk) ps e fun e' => X c fs e')) X) : wp (eMethV i c F tk m) env P X := by
  unfold gv at h
  simp only [opt_iff] at h
  unfold optD st at h
  refine ⟨?_⟩
  unfold wpD eMethV
  cases z1 : getV i env with
  | none => rw [z1] at h; exact h
  | some d =>
    rw [z1] at h
    simp only [opt_iff] at h
    first | (unfold optD at h) | skip
    simp only at h ⊢
    cases z2 : insOf d with
    | none => rw [z2] at h; exact h
    | some x =>
      obtain ⟨c', l⟩ := x
      rw [z2] at h
      obtain ⟨rfl, h⟩ := h
      simp only [if_true]
      refine (wp_bnd (X := X) (P := P) (wp_mono h fun ds e h1 => ?_)).run
      refine ⟨?_⟩
      unfold wpD
      simp only [fF_iff] at h1
      unfold fFD pbc at h1
      cases z : F (d :: ds) with
      | ok r ps => rw [z] at h1; exact h1
      | ex c fs ps => rw [z] at h1; exact h1
      | bad => rw [z] at h1; exact h1
def ol (o : D) (k : List D → Prop) : Prop := match o with
  | .olst l => k l
  | _ => False
theorem wp_eApp (h : gi i env fun o => ol o fun _ => wp g env (fun d e => gi i e fun o => ol o fun l => l.length < 16777216 ∧ st i (.olst (l ++ [d])) e fun e' => P .non e') X) : wp (eApp i g) env P X := by
  unfold gi at h
  simp only [opt_iff] at h
  unfold optD at h
  refine wp_bnd ?_
  refine ⟨?_⟩
  unfold wpD wrL
  cases z : env[i]? with
  | none => rw [z] at h; exact h.elim
  | some o =>
    rw [z] at h
    cases o <;> try (exact h.elim)
    rename_i l
    simp only [set_self z]
    refine wp_bnd (wp_mono h fun d e h1 => ?_)
    refine wp_bnd ?_
    refine ⟨?_⟩
    unfold wpD
    first | (unfold gi at h1; simp only [opt_iff] at h1; unfold optD at h1) | skip
    cases z2 : e[i]? with
    | none => rw [z2] at h1; exact h1.elim
    | some o2 =>
      rw [z2] at h1
      cases o2 <;> try (exact h1.elim)
      rename_i l2
      obtain ⟨h2, h3⟩ := h1
      simp only [z2, appK, if_pos h2]
      exact ⟨h3⟩
/-! statements -/
variable {S : Fl → List D → Prop} {a b : M Fl}
def sqK (b : M Fl) (S : Fl → List D → Prop) (X : XP) : Fl → List D → Prop
  | .nx, e => wp b e S X
  | x, e => S x e
theorem sq_nx (h : wp b env S X) : sqK b S X .nx env := h
theorem sq_bk (h : S .bk env) : sqK b S X .bk env := h
theorem sq_ct (h : S .ct env) : sqK b S X .ct env := h
theorem sq_rt (h : S (.rt d) env) : sqK b S X (.rt d) env := h
theorem wp_sSeq (h : wp a env (sqK b S X) X) : wp (sSeq a b) env S X := wp_bnd (wp_mono h fun fl e h1 => by cases fl <;> first | exact h1 | exact ⟨h1⟩)
theorem wp_sNx (h : S .nx env) : wp sNx env S X := ⟨h⟩
theorem wp_sBk (h : S .bk env) : wp sBk env S X := ⟨h⟩
theorem wp_sCt (h : S .ct env) : wp sCt env S X := ⟨h⟩
theorem wp_sEx (h : wp f env (fun _ e => S .nx e) X) : wp (sEx f) env S X := wp_bnd (wp_mono h fun _ _ h => ⟨h⟩)
theorem wp_sRt (h : wp f env (fun d e => S (.rt d) e) X) : wp (sRt f) env S X := wp_bnd (wp_mono h fun _ _ h => ⟨h⟩)
theorem wp_sIf (h : wp p env (fun t e => br t (wp a e S X) (wp b e S X)) X) : wp (sIf p a b) env S X := wp_bnd (wp_mono h fun _ _ h => wp_ite h)
theorem wp_sSet (h : wp f env (fun d e => st i d e fun e' => S .nx e') X) : wp (sSet i f) env S X := wp_bnd (wp_mono h fun _ _ h => ⟨h⟩)
theorem wp_sAsg {t : D → M Unit} (h : wp f env (fun d e => wp (t d) e (fun _ e => S .nx e) X) X) : wp (sAsg f t) env S X := wp_bnd (wp_mono h fun _ _ h => wp_bnd (wp_mono h fun _ _ h => ⟨h⟩))
def oi (q j : Nat) (o : D) (k : List D → Prop) : Prop := match o with
  | .oins q' l => q' = q ∧ j ≤ l.length ∧ l.length < 1000 ∧ k l
  | _ => False
theorem wp_sAt {q j : Nat} (h : wp f env (fun d e => gi i e fun o => oi q j o fun l => st i (.oins q (setF l j d)) e fun e' => S .nx e') X) : wp (sAt i q j f) env S X := wp_bnd (wp_mono h fun d e h => by
  unfold gi at h
  simp only [opt_iff] at h
  unfold optD at h
  refine ⟨?_⟩
  unfold wpD
  cases z : e[i]? with
  | none => rw [z] at h; exact h.elim
  | some o =>
    rw [z] at h
    cases o <;> try (exact h.elim)
    obtain ⟨h1, h2, h3, h4⟩ := h
    simp only [z]
    rw [if_pos ⟨h1, h2, h3⟩]
    exact h4)
theorem wp_sIxSet (h : wp f env (fun d e => gi i e fun o => ol o fun _ => wp g e (fun k e => gi i e fun o => ol o fun l => opt (setK d k l) fun l' => st i (.olst l') e fun e' => S .nx e') X) X) : wp (sIxSet i f g) env S X := wp_bnd (wp_mono h fun d e h => by
  unfold gi at h
  simp only [opt_iff] at h
  unfold optD at h
  refine wp_bnd ?_
  refine ⟨?_⟩
  unfold wpD wrL
  cases z : e[i]? with
  | none => rw [z] at h; exact h.elim
  | some o =>
    rw [z] at h
    cases o <;> try (exact h.elim)
    rename_i l
    simp only [set_self z]
    refine wp_bnd (wp_mono h fun k e h1 => ?_)
    refine wp_bnd ?_
    refine ⟨?_⟩
    unfold wpD
    first | (unfold gi at h1; simp only [opt_iff] at h1; unfold optD at h1) | skip
    cases z2 : e[i]? with
    | none => rw [z2] at h1; exact h1.elim
    | some o2 =>
      rw [z2] at h1
      cases o2 <;> try (exact h1.elim)
      rename_i l2
      simp only at h1 ⊢
      unfold ol at h1
      simp only at h1
      cases z3 : setK d k l2 with
      | none => rw [z3] at h1; exact h1.elim
      | some l' =>
        rw [z3] at h1
        simp only [z2, z3]
        exact ⟨h1⟩)
variable {U : Unit → List D → Prop}
theorem wp_gN (h : st i d env fun e => U () e) : wp (gN i d) env U X := ⟨h⟩
def sqs (d : D) (k : List D → Prop) : Prop := opt (seqOf d) k
theorem wp_noEx {t : M Unit} (h : wp t env U fun _ _ _ => False) : wp (noEx t) env U X := by
  replace h := h.run
  refine ⟨?_⟩
  unfold wpD noEx at *
  cases z : t env with
  | ok u e => rw [z] at h; exact h
  | ex c fs e => rw [z] at h; exact h
  | bad => rw [z] at h; exact h
theorem wp_gT {u : List D → M Unit} (h : sqs d fun l => l.length = n ∧ wp (u l) env U fun _ _ _ => False) : wp (gT n u d) env U X := by
  unfold sqs at h
  simp only [opt_iff] at h
  unfold optD at h
  refine ⟨?_⟩
  unfold wpD gT
  cases z : seqOf d with
  | none => rw [z] at h; exact h
  | some l =>
    rw [z] at h
    obtain ⟨h1, h2⟩ := h
    simp only [h1, if_true]
    exact (wp_noEx h2 (X := X)).run
theorem wp_gsNil (h : U () env) : wp (gsNil []) env U X := ⟨h⟩
theorem wp_gsCons {t : D → M Unit} {u : List D → M Unit} {ds : List D} (h : wp (t d) env (fun _ e => wp (u ds) e U fun _ _ _ => False) fun _ _ _ => False) : wp (gsCons t u (d :: ds)) env U X := by
  have h2 : wp (bnd (noEx (t d)) fun _ => noEx (u ds)) env U X := wp_bnd (wp_noEx (wp_mono h fun _ _ h => wp_noEx h))
  exact h2
end
/-! ### the steps on data -/
section
variable {env l m : List D} {k : D → Prop} {K : List D → Prop} {i j : Int} {n : Nat} {x d : D} {A B : Prop}
def nu (d : D) (Q : Prop) : Prop := if isU d then False else Q
theorem gv_0 (h : nu d (k d)) : gv 0 (d :: l) k := by
  unfold nu at h
  unfold gv
  simp only [opt_iff]
  unfold optD getV
  simp only [List.getElem?_cons_zero]
  cases z : isU d <;> simp [z] at h ⊢ <;> exact h
theorem gv_s (h : gv n l k) : gv (n + 1) (d :: l) k := by
  unfold gv at *
  simp only [opt_iff] at *
  unfold optD getV at *
  simpa using h
theorem gi_0 (h : k d) : gi 0 (d :: l) k := ⟨h⟩
theorem gi_s (h : gi n l k) : gi (n + 1) (d :: l) k := by unfold gi at *; simpa using h
theorem st_0 (h : K (x :: l)) : st 0 x (d :: l) K := h
theorem st_s (h : st n x l fun l' => K (d :: l')) : st (n + 1) x (d :: l) K := h
theorem nu_int {i : Int} {Q : Prop} (h : Q) : nu (.int i) Q := h
theorem nu_bl {i : Bool} {Q : Prop} (h : Q) : nu (.bl i) Q := h
theorem nu_str {i : Str} {Q : Prop} (h : Q) : nu (.str i) Q := h
theorem nu_non {Q : Prop} (h : Q) : nu .non Q := h
theorem nu_lst {Q : Prop} (h : Q) : nu (.lst l) Q := h
theorem nu_tup {Q : Prop} (h : Q) : nu (.tup l) Q := h
theorem nu_ins {Q : Prop} (h : Q) : nu (.ins n l) Q := h
theorem nu_olst {Q : Prop} (h : Q) : nu (.olst l) Q := h
theorem nu_otup {Q : Prop} (h : Q) : nu (.otup l) Q := h
theorem nu_oins {Q : Prop} (h : Q) : nu (.oins n l) Q := h
theorem fz_int {i : Int} (h : k (.int i)) : frz (.int i) k := by unfold frz; rw [freeze]; exact h; all_goals simp
theorem fz_bl {i : Bool} (h : k (.bl i)) : frz (.bl i) k := by unfold frz; rw [freeze]; exact h; all_goals simp
theorem fz_str {i : Str} (h : k (.str i)) : frz (.str i) k := by unfold frz; rw [freeze]; exact h; all_goals simp
theorem fz_non (h : k .non) : frz .non k := by unfold frz; rw [freeze]; exact h; all_goals simp
theorem fz_lst (h : k (.lst l)) : frz (.lst l) k := by unfold frz; rw [freeze]; exact h; all_goals simp
theorem fz_tup (h : k (.tup l)) : frz (.tup l) k := by unfold frz; rw [freeze]; exact h; all_goals simp
theorem fz_ins (h : k (.ins n l)) : frz (.ins n l) k := by unfold frz; rw [freeze]; exact h; all_goals simp
theorem fz_olst (h : k (.lst (freezeL l))) : frz (.olst l) k := by unfold frz; rw [freeze]; exact h
theorem fz_otup (h : k (.tup (freezeL l))) : frz (.otup l) k := by unfold frz; rw [freeze]; exact h
theorem fz_oins (h : k (.ins n (freezeL l))) : frz (.oins n l) k := by unfold frz; rw [freeze]; exact h
theorem o_add (h : k (.int (i + j))) : opt (addD (.int i) (.int j)) k := ⟨h⟩
theorem o_sub (h : k (.int (i - j))) : opt (subI (.int i) (.int j)) k := ⟨h⟩
theorem o_mul (c : (-18446744073709551616 < i ∧ i < 18446744073709551616) ∨ (-18446744073709551616 < j ∧ j < 18446744073709551616)) (h : k (.int (i * j))) : opt (mulI (.int i) (.int j)) k := by rw [show mulI (.int i) (.int j) = some (.int (i * j)) from if_pos c]; exact ⟨h⟩
theorem o_div (c : 0 < j ∧ j < 1073741824) (h : k (.int (i / j))) : opt (divI (.int i) (.int j)) k := by rw [show divI (.int i) (.int j) = some (.int (i / j)) from if_pos c]; exact ⟨h⟩
theorem o_mod (c : 0 < j) (h : k (.int (i % j))) : opt (modI (.int i) (.int j)) k := by rw [show modI (.int i) (.int j) = some (.int (i % j)) from if_pos c]; exact ⟨h⟩
theorem o_pow (c : 0 ≤ j ∧ j ≤ 1000000 ∧ i.natAbs < 18446744073709551616) (h : k (.int (i ^ j.toNat))) : opt (powI (.int i) (.int j)) k := by rw [show powI (.int i) (.int j) = some (.int (i ^ j.toNat)) from if_pos c]; exact ⟨h⟩
theorem o_neg (h : k (.int (-i))) : opt (negI (.int i)) k := ⟨h⟩
theorem o_lt (h : k (.bl (decide (i < j)))) : opt (ltI (.int i) (.int j)) k := ⟨h⟩
theorem o_le (h : k (.bl (decide (i ≤ j)))) : opt (leI (.int i) (.int j)) k := ⟨h⟩
theorem o_gt (h : k (.bl (decide (j < i)))) : opt (gtI (.int i) (.int j)) k := ⟨h⟩
theorem o_ge (h : k (.bl (decide (j ≤ i)))) : opt (geI (.int i) (.int j)) k := ⟨h⟩
theorem o_eqI (h : k (.bl (decide (i = j)))) : opt (eqD (.int i) (.int j)) k := by
  have : eqD (.int i) (.int j) = some (.bl (decide (i = j))) := by simp [eqD, toPy, eqv, depD]; rfl
  rw [this]; exact ⟨h⟩
theorem o_neI (h : k (.bl (decide (i ≠ j)))) : opt (neD (.int i) (.int j)) k := by
  have : neD (.int i) (.int j) = some (.bl (decide (i ≠ j))) := by
    simp [neD, toPy, eqv, depD]
    by_cases e : i = j <;> simp [e]
  rw [this]; exact ⟨h⟩
theorem o_eqS {a b : Str} (h : k (.bl (decide (a = b)))) : opt (eqD (.str a) (.str b)) k := by
  have : eqD (.str a) (.str b) = some (.bl (decide (a = b))) := by
    simp [eqD, toPy, eqv, depD]
    by_cases e : a = b <;> simp [e]
  rw [this]; exact ⟨h⟩
theorem o_neS {a b : Str} (h : k (.bl (decide (a ≠ b)))) : opt (neD (.str a) (.str b)) k := by
  have : neD (.str a) (.str b) = some (.bl (decide (a ≠ b))) := by
    simp [neD, toPy, eqv, depD]
    by_cases e : a = b <;> simp [e]
  rw [this]; exact ⟨h⟩
theorem o_eqB {a b : Bool} (h : k (.bl (a == b))) : opt (eqD (.bl a) (.bl b)) k := by
  have : eqD (.bl a) (.bl b) = some (.bl (a == b)) := by simp [eqD, toPy, eqv, depD]
  rw [this]; exact ⟨h⟩
theorem o_neB {a b : Bool} (h : k (.bl (a != b))) : opt (neD (.bl a) (.bl b)) k := by
  have : neD (.bl a) (.bl b) = some (.bl (a != b)) := by 
    simp [neD, toPy, eqv, depD]
    cases a <;> cases b <;> rfl
  rw [this]; exact ⟨h⟩
theorem o_toB {b : Bool} {k : Bool → Prop} (h : k b) : opt (toB (.bl b)) k := ⟨h⟩
theorem o_truB {b : Bool} {k : Bool → Prop} (h : k b) : opt (truD (.bl b)) k := ⟨h⟩
theorem o_truI {k : Bool → Prop} (h : k (i != 0)) : opt (truD (.int i)) k := ⟨h⟩
theorem o_svI {k : V → Prop} (h : k (.int i)) : opt (sv (.int i)) k := ⟨h⟩
theorem o_toI {k : Int → Prop} (h : k i) : opt (toI (.int i)) k := ⟨h⟩
theorem o_isNn {k : Bool → Prop} (h : k true) : opt (isN .non) k := ⟨h⟩
theorem o_isNi {k : Bool → Prop} (h : k false) : opt (isN (.int i)) k := ⟨h⟩
theorem br_t (h : A) : br true A B := ⟨h⟩
theorem br_f (h : B) : br false A B := ⟨h⟩
theorem br_d {c : Prop} [Decidable c] (h1 : c → A) (h2 : ¬ c → B) : br (decide c) A B := by
  simp only [br_iff]
  unfold brD
  by_cases h : c <;> simp [h]
  · exact h1 h
  · exact h2 h
theorem br_n {b : Bool} (h : br b B A) : br (!b) A B := by cases b <;> exact ⟨h.run⟩
theorem br_b {b : Bool} (h1 : b = true → A) (h2 : b = false → B) : br b A B := by cases b with
  | false => exact ⟨h2 rfl⟩
  | true => exact ⟨h1 rfl⟩
variable {tk : List (Option Nat)} {ds : List D}
theorem pbk_n (h : pbk tk ds env K) : pbk (none :: tk) (d :: ds) env K := h
theorem pbk_s (h : st n d env fun e => pbk tk ds e K) : pbk (some n :: tk) (d :: ds) env K := h
theorem pbk_0 (h : K env) : pbk [] [] env K := h
theorem pbc_n (h : pbc tk ds env K) : pbc (none :: tk) ds env K := h
theorem pbc_s (h : st n d env fun e => pbc tk ds e K) : pbc (some n :: tk) (d :: ds) env K := h
theorem pbc_0 (h : K env) : pbc [] ds env K := h
theorem ol_o (h : K l) : ol (.olst l) K := h
theorem oi_o {q j : Nat} (c1 : j ≤ l.length) (c2 : l.length < 1000) (h : K l) : oi q j (.oins q l) K := ⟨rfl, c1, c2, h⟩
end
section
variable {l m : List D} {k : D → Prop} {K : List D → Prop} {x d : D} {A B : Prop} {n : Nat}
theorem len_ok {Q : Prop} (c : Nat.ble l.length 16777216 = true) (h : Q) : l.length ≤ 16777216 ∧ Q := ⟨Nat.le_of_ble_eq_true c, h⟩
theorem len_lt {Q : Prop} (c : Nat.ble (l.length + 1) 16777216 = true) (h : Q) : l.length < 16777216 ∧ Q := ⟨Nat.le_of_ble_eq_true c, h⟩
theorem len_eq {Q : Prop} (c : l.length = n) (h : Q) : l.length = n ∧ Q := ⟨c, h⟩
theorem br_isO (c : isO d = false) (h : B) : br (isO d) A B := by rw [c]; exact ⟨h⟩
theorem br_isC {i q : Nat} {e : List D} {b : Bool} (c : isC i q e = b) (h : br b A B) : br (isC i q e) A B := by rw [c]; exact h
theorem sq_s (e : seqOf d = some l) (h : K l) : sqs d K := by unfold sqs; rw [e]; exact ⟨h⟩
theorem o_ins {k : Nat × List D → Prop} {q : Nat} (h : k (q, l)) : opt (insOf (.ins q l)) k := ⟨h⟩
theorem o_oins {k : Nat × List D → Prop} {q : Nat} (h : k (q, l)) : opt (insOf (.oins q l)) k := ⟨h⟩
theorem fst_eq {q : Nat} {Q : Prop} (h : Q) : (q, l).1 = q ∧ Q := ⟨rfl, h⟩
theorem o_set {k : D} {K : List D → Prop} (e : setK d k l = some m) (h : K m) : opt (setK d k l) K := by rw [e]; exact ⟨h⟩
theorem o_isi {tb : TbI} {b : Bool} {k : Bool → Prop} (e : isiD tb d = some b) (h : k b) : opt (isiD tb d) k := by rw [e]; exact ⟨h⟩
theorem o_isN {b : Bool} {k : Bool → Prop} (e : isN d = some b) (h : k b) : opt (isN d) k := by rw [e]; exact ⟨h⟩
end
/-! ### a def's end -/
def endF (mk : List Bool) (r : D) (ps : List D) (fl : Fl) (e : List D) : Prop := match fl with
  | .rt r' => r' = r ∧ mk.length ≤ e.length ∧ pick mk e = ps
  | .nx => D.non = r ∧ mk.length ≤ e.length ∧ pick mk e = ps
  | _ => False
theorem def_ok {b : M Fl} {nl : Nat} {mk : List Bool} {ds env : List D} {r : D} {ps : List D} (e0 : ds ++ List.replicate nl .un = env) (h : wp b env (endF mk r ps) fun _ _ _ => False) : defM b nl mk ds = .ok r ps := by
  subst e0
  replace h := h.run
  unfold wpD at h
  unfold defM
  cases q : b (ds ++ List.replicate nl .un) with
  | bad => rw [q] at h; exact h.elim
  | ex c fs e => rw [q] at h; exact h.elim
  | ok fl e =>
    rw [q] at h
    cases fl with
    | nx => obtain ⟨rfl, h1, rfl⟩ := h; simp only [outM, if_pos h1]
    | rt r' => obtain ⟨rfl, h1, rfl⟩ := h; simp only [outM, if_pos h1]
    | bk => exact h.elim
    | ct => exact h.elim
theorem end_rt {mk : List Bool} {r r' : D} {ps e : List D} (h1 : r' = r) (h2 : mk.length ≤ e.length) (h3 : pick mk e = ps) : endF mk r ps (.rt r') e := ⟨h1, h2, h3⟩
theorem end_nx {mk : List Bool} {ps e : List D} (h2 : mk.length ≤ e.length) (h3 : pick mk e = ps) : endF mk .non ps .nx e := ⟨rfl, h2, h3⟩
def endP (mk : List Bool) (P : D → List D → Prop) (fl : Fl) (e : List D) : Prop := match fl with
  | .rt r => mk.length ≤ e.length ∧ P r (pick mk e)
  | .nx => mk.length ≤ e.length ∧ P .non (pick mk e)
  | _ => False
theorem def_ex {b : M Fl} {nl : Nat} {mk : List Bool} {ds env : List D} (P : D → List D → Prop) (e0 : ds ++ List.replicate nl .un = env) (h : wp b env (endP mk P) fun _ _ _ => False) : ∃ r ps, defM b nl mk ds = .ok r ps ∧ P r ps := by
  subst e0
  replace h := h.run
  unfold wpD at h
  unfold defM
  cases q : b (ds ++ List.replicate nl .un) with
  | bad => rw [q] at h; exact h.elim
  | ex c fs e => rw [q] at h; exact h.elim
  | ok fl e =>
    rw [q] at h
    cases fl with
    | nx => obtain ⟨h1, h2⟩ := h; exact ⟨_, _, if_pos h1, h2⟩
    | rt r' => obtain ⟨h1, h2⟩ := h; exact ⟨_, _, if_pos h1, h2⟩
    | bk => exact h.elim
    | ct => exact h.elim
theorem endP_rt {mk : List Bool} {P : D → List D → Prop} {r : D} {e : List D} (c : Nat.ble mk.length e.length = true) (h : P r (pick mk e)) : endP mk P (.rt r) e := ⟨Nat.le_of_ble_eq_true c, h⟩
theorem endP_nx {mk : List Bool} {P : D → List D → Prop} {e : List D} (c : Nat.ble mk.length e.length = true) (h : P .non (pick mk e)) : endP mk P .nx e := ⟨Nat.le_of_ble_eq_true c, h⟩
theorem endF_rt {mk : List Bool} {r r' : D} {ps e : List D} (h2 : Nat.ble mk.length e.length = true) (h3 : pick mk e = ps) (h1 : r' = r) : endF mk r ps (.rt r') e := ⟨h1, Nat.le_of_ble_eq_true h2, h3⟩
theorem endF_nx {mk : List Bool} {ps e : List D} (h2 : Nat.ble mk.length e.length = true) (h3 : pick mk e = ps) : endF mk .non ps .nx e := ⟨rfl, Nat.le_of_ble_eq_true h2, h3⟩
/-! ### loops -/
theorem wp_loop {t : D → M Unit} {body : M Fl} {S : Fl → List D → Prop} {X : XP} (I : Nat → List D → Prop) (items : List D)
    (step : ∀ i d env, items[i]? = some d → I i env → wp (t d) env (fun _ e => wp body e (fun fl e => match fl with
      | .nx => I (i + 1) e
      | .ct => I (i + 1) e
      | .bk => S .nx e
      | .rt r => S (.rt r) e) X) X) (stop : ∀ env, I items.length env → S .nx env) : ∀ {env : List D}, I 0 env → wp (loopD t body items) env S X := by
  have key : ∀ (l : List D) (i : Nat) (env : List D), items.drop i = l → i ≤ items.length → I i env → wp (loopD t body l) env S X := fun l => by
    induction l with
    | nil =>
      intro i env e hi h
      have hi2 : items.length ≤ i := List.drop_eq_nil_iff.mp e
      have z : i = items.length := Nat.le_antisymm hi hi2
      subst z
      exact ⟨stop env h⟩
    | cons d ds ih =>
      intro i env e hi h
      have hlt : i < items.length := by
        by_cases z : i < items.length
        · exact z
        · rw [List.drop_eq_nil_iff.mpr (by omega)] at e; cases e
      have e2 : items[i] :: items.drop (i + 1) = d :: ds := by rw [← e]; exact (List.drop_eq_getElem_cons hlt).symm
      injection e2 with e3 e4
      have hs := step i d env (by rw [List.getElem?_eq_getElem hlt, e3]) h
      refine wp_bnd (wp_mono hs fun _ e1 h1 => wp_bnd (wp_mono h1 fun fl e5 h2 => ?_))
      cases fl with
      | nx => exact ih (i + 1) e5 e4 hlt h2
      | ct => exact ih (i + 1) e5 e4 hlt h2
      | bk => exact ⟨h2⟩
      | rt r => exact ⟨h2⟩
  exact fun {env} h => key items 0 env rfl (Nat.zero_le _) h
theorem wp_sFor {mi : M (List D)} {t : D → M Unit} {body : M Fl} {env : List D} {S : Fl → List D → Prop} {X : XP} (h : wp mi env (fun items e => wp (loopD t body items) e S X) X) : wp (sFor mi t body) env S X := wp_bnd h
/-- a loop over few: turn by turn -/
theorem wp_loop0 {t : D → M Unit} {body : M Fl} {env : List D} {S : Fl → List D → Prop} {X : XP} (h : S .nx env) : wp (loopD t body []) env S X := ⟨h⟩
def lpK (t : D → M Unit) (body : M Fl) (ds : List D) (S : Fl → List D → Prop) (X : XP) : Fl → List D → Prop
  | .nx, e => wp (loopD t body ds) e S X
  | .ct, e => wp (loopD t body ds) e S X
  | .bk, e => S .nx e
  | .rt r, e => S (.rt r) e
theorem wp_loopS {t : D → M Unit} {body : M Fl} {env : List D} {d : D} {ds : List D} {S : Fl → List D → Prop} {X : XP} (h : wp (t d) env (fun _ e => wp body e (lpK t body ds S X) X) X) : wp (loopD t body (d :: ds)) env S X :=
  wp_bnd (wp_mono h fun _ e1 h1 => wp_bnd (wp_mono h1 fun fl e5 h2 => by cases fl <;> first | exact h2 | exact ⟨h2⟩))
theorem lp_nx {t : D → M Unit} {body : M Fl} {env : List D} {ds : List D} {S : Fl → List D → Prop} {X : XP} (h : wp (loopD t body ds) env S X) : lpK t body ds S X .nx env := h
theorem lp_ct {t : D → M Unit} {body : M Fl} {env : List D} {ds : List D} {S : Fl → List D → Prop} {X : XP} (h : wp (loopD t body ds) env S X) : lpK t body ds S X .ct env := h
theorem lp_bk {t : D → M Unit} {body : M Fl} {env : List D} {ds : List D} {S : Fl → List D → Prop} {X : XP} (h : S .nx env) : lpK t body ds S X .bk env := h
theorem lp_rt {t : D → M Unit} {body : M Fl} {env : List D} {ds : List D} {S : Fl → List D → Prop} {X : XP} {r : D} (h : S (.rt r) env) : lpK t body ds S X (.rt r) env := h
theorem wp_iRg1 {m : M (List D)} {env : List D} {P : List D → List D → Prop} {X : XP} (h : wp m env (fun ds e => opt (rng1 ds) fun l => P l e) X) : wp (iRg1 m) env P X := wp_bnd (wp_mono h fun _ _ h => wp_lft h)
theorem wp_iRg2 {m : M (List D)} {env : List D} {P : List D → List D → Prop} {X : XP} (h : wp m env (fun ds e => opt (rng2 ds) fun l => P l e) X) : wp (iRg2 m) env P X := wp_bnd (wp_mono h fun _ _ h => wp_lft h)
theorem wp_iV {f : M D} {env : List D} {P : List D → List D → Prop} {X : XP} (h : wp f env (fun d e => frz d fun d' => opt (itemsOf d') fun l => P l e) X) : wp (iV f) env P X := wp_bnd (wp_eFz (wp_mono h fun d e h => wp_lft h))
theorem o_rng1 {j : Int} {k : List D → Prop} (c : -4611686018427387904 ≤ j ∧ j < 4611686018427387904) (h : k (rngD 0 j)) : opt (rng1 [.int j]) k := by rw [show rng1 [.int j] = some (rngD 0 j) from if_pos c]; exact ⟨h⟩
theorem o_rng2 {i j : Int} {k : List D → Prop} (c : (-4611686018427387904 ≤ i ∧ i < 4611686018427387904) ∧ -4611686018427387904 ≤ j ∧ j < 4611686018427387904) (h : k (rngD i j)) : opt (rng2 [.int i, .int j]) k := by rw [show rng2 [.int i, .int j] = some (rngD i j) from if_pos c]; exact ⟨h⟩
theorem o_itL {l : List D} {k : List D → Prop} (h : k l) : opt (itemsOf (.lst l)) k := ⟨h⟩
theorem o_itT {l : List D} {k : List D → Prop} (h : k l) : opt (itemsOf (.tup l)) k := ⟨h⟩
theorem o_absB {i : Int} {k : D → Prop} (h : k (.int (if i < 0 then -i else i))) : opt (absB [.int i]) k := ⟨h⟩
theorem o_maxB {i j : Int} {k : D → Prop} (h : k (.int (if j > i then j else i))) : opt (maxB [.int i, .int j]) k := ⟨h⟩
theorem o_minB {i j : Int} {k : D → Prop} (h : k (.int (if j < i then j else i))) : opt (minB [.int i, .int j]) k := ⟨h⟩
theorem o_on3 {a b c : Int} {g : Int → Int → Int → Int} {k : D → Prop} (h : k (.int (g a b c))) : opt (on3 g [.int a, .int b, .int c]) k := ⟨h⟩
theorem o_intI {i : Int} {k : D → Prop} (h : k (.int i)) : opt (intA [.int i]) k := ⟨h⟩
theorem o_lenL {l : List D} {k : D → Prop} (h : k (.int (l.length : Nat))) : opt (lenB [.lst l]) k := ⟨h⟩
theorem o_lenO {l : List D} {k : D → Prop} (h : k (.int (l.length : Nat))) : opt (lenB [.olst l]) k := ⟨h⟩
theorem o_lenT {l : List D} {k : D → Prop} (h : k (.int (l.length : Nat))) : opt (lenB [.tup l]) k := ⟨h⟩
/-! ### subscripts with known places -/
theorem o_ix {d r : D} {i : Int} {k : D → Prop} (e : ixD d (.int i) = some r) (h : k r) : opt (ixD d (.int i)) k := by rw [e]; exact ⟨h⟩
theorem o_at {d r : D} {js : List (Nat × Nat)} {k : D → Prop} (e : atD js d = some r) (h : k r) : opt (atD js d) k := by rw [e]; exact ⟨h⟩
theorem wp_cut {a b : M Fl} {env : List D} {S : Fl → List D → Prop} {X : XP} (I : List D → Prop) (h1 : wp a env (fun fl e => fl = .nx ∧ I e) X) (h2 : ∀ e, I e → wp b e S X) : wp (sSeq a b) env S X :=
  wp_sSeq (wp_mono h1 fun fl e h => by obtain ⟨rfl, h⟩ := h; exact h2 e h)
theorem rng_at {i j : Int} {n : Nat} {d : D} (h : (rngD i j)[n]? = some d) : d = .int (i + (n : Nat)) ∧ n < (j - i).toNat := by
  unfold rngD at h
  rw [List.getElem?_map] at h
  by_cases hk : n < (j - i).toNat
  · rw [List.getElem?_range hk] at h
    exact ⟨(Option.some.inj h).symm, hk⟩
  · rw [List.getElem?_eq_none (by simpa using hk)] at h
    cases h
theorem rng_len {i j : Int} : (rngD i j).length = (j - i).toNat := by unfold rngD; simp
/-! lists of ints -/
theorem ixD_L {l : List D} {i : Int} (h0 : 0 ≤ i) (h1 : i < l.length) : ixD (.lst l) (.int i) = l[i.toNat]? := by
  show atI l i = _
  unfold atI ixN
  rw [if_pos h0, if_pos h1]
  rfl
theorem ixD_O {l : List D} {i : Int} (h0 : 0 ≤ i) (h1 : i < l.length) : ixD (.olst l) (.int i) = l[i.toNat]? := ixD_L h0 h1
theorem get_ints {ns : List Int} {n : Nat} (h : n < ns.length) : (ns.map D.int)[n]? = some (.int (ns.getD n 0)) := by
  rw [List.getElem?_map, List.getElem?_eq_getElem h]
  simp [List.getD, List.getElem?_eq_getElem h]
theorem ix_ints {ns : List Int} {i : Int} (h0 : 0 ≤ i) (h1 : i < ns.length) : ixD (.lst (ns.map D.int)) (.int i) = some (.int (ns.getD i.toNat 0)) := by
  rw [ixD_L h0 (by simpa using h1)]
  exact get_ints (by omega)
theorem ix_intsO {ns : List Int} {i : Int} (h0 : 0 ≤ i) (h1 : i < ns.length) : ixD (.olst (ns.map D.int)) (.int i) = some (.int (ns.getD i.toNat 0)) := ix_ints h0 h1
theorem len_ints {ns : List Int} : (ns.map D.int).length = ns.length := List.length_map ..
theorem o_lenIL {ns : List Int} {k : D → Prop} (h : k (.int (ns.length : Nat))) : opt (lenB [.lst (ns.map D.int)]) k := by
  refine o_lenL ?_
  rw [len_ints]; exact h
theorem o_lenIO {ns : List Int} {k : D → Prop} (h : k (.int (ns.length : Nat))) : opt (lenB [.olst (ns.map D.int)]) k := by
  refine o_lenO ?_
  rw [len_ints]; exact h
theorem lenI_lt {ns : List Int} {Q : Prop} (c : ns.length < 16777216) (h : Q) : (ns.map D.int).length < 16777216 ∧ Q := ⟨by rw [len_ints]; exact c, h⟩
theorem o_ixIL {ns : List Int} {i : Int} {k : D → Prop} (h0 : 0 ≤ i) (h1 : i < ns.length) (h : k (.int (ns.getD i.toNat 0))) : opt (ixD (.lst (ns.map D.int)) (.int i)) k := opt_of (ix_ints h0 h1) h
theorem o_ixIO {ns : List Int} {i : Int} {k : D → Prop} (h0 : 0 ≤ i) (h1 : i < ns.length) (h : k (.int (ns.getD i.toNat 0))) : opt (ixD (.olst (ns.map D.int)) (.int i)) k := opt_of (ix_intsO h0 h1) h
theorem br_dT {c : Prop} [Decidable c] {A B : Prop} (h : c) (k : A) : br (decide c) A B := by rw [decide_eq_true h]; exact ⟨k⟩
theorem br_dF {c : Prop} [Decidable c] {A B : Prop} (h : ¬ c) (k : B) : br (decide c) A B := by rw [decide_eq_false h]; exact ⟨k⟩
theorem o_in {d e r : D} {k : D → Prop} (c : inD d e = some r) (h : k r) : opt (inD d e) k := by rw [c]; exact ⟨h⟩
theorem o_notIn {d e r : D} {k : D → Prop} (c : notInD d e = some r) (h : k r) : opt (notInD d e) k := by rw [c]; exact ⟨h⟩
theorem fF_wk {o : Out D} {k k' : D → List D → Prop} {X : XP} (h : fF o k X) (f : ∀ r ps, k r ps → k' r ps) : fF o k' X := by
  rw [fF_iff] at h ⊢
  cases o with
  | ok r ps => exact f r ps h
  | ex c fs ps => exact h
  | bad => exact h
theorem br_anyT {l : List D} {f : D → Bool} {A B : Prop} (h : l.any f = true) (k : A) : br (l.any f) A B := by rw [h]; exact ⟨k⟩
theorem br_anyF {l : List D} {f : D → Bool} {A B : Prop} (h : l.any f = false) (k : B) : br (l.any f) A B := by rw [h]; exact ⟨k⟩
theorem br_beqT {a b : Bool} {A B : Prop} (h : (a == b) = true) (k : A) : br (a == b) A B := by rw [h]; exact ⟨k⟩
theorem br_beqF {a b : Bool} {A B : Prop} (h : (a == b) = false) (k : B) : br (a == b) A B := by rw [h]; exact ⟨k⟩
theorem br_bneT {a b : Bool} {A B : Prop} (h : (a != b) = true) (k : A) : br (a != b) A B := by rw [h]; exact ⟨k⟩
theorem br_bneF {a b : Bool} {A B : Prop} (h : (a != b) = false) (k : B) : br (a != b) A B := by rw [h]; exact ⟨k⟩
theorem o_isNs {z : Str} {k : Bool → Prop} (h : k false) : opt (isN (.str z)) k := opt_of (by simp [isN, sv]) h
theorem o_isNb {z : Bool} {k : Bool → Prop} (h : k false) : opt (isN (.bl z)) k := opt_of (by simp [isN, sv]) h
theorem br_isCT {i q : Nat} {e : List D} {A B : Prop} (c : isC i q e = true) (h : A) : br (isC i q e) A B := by rw [c]; exact ⟨h⟩
theorem br_isCF {i q : Nat} {e : List D} {A B : Prop} (c : isC i q e = false) (h : B) : br (isC i q e) A B := by rw [c]; exact ⟨h⟩
/-! ### list comprehensions -/
theorem wp_eLc {vs : List Nat} {mi : M (List D)} {t : D → M Unit} {q : M Bool} {f : M D} {env : List D} {P : D → List D → Prop} {X : XP} (h : wp mi env (fun items e => wp (compD vs t q f items []) e (fun l e' => P (.olst l) (wipeE vs.reverse (wipeE vs e'))) X) X) : wp (eLc vs mi t q f) env P X :=
  wp_bnd (wp_mono h fun items e h1 => wp_bnd (wp_mono h1 fun l e' h2 => ⟨h2⟩))
inductive All2 (g : D → D → Prop) : List D → List D → Prop where
  | nil : All2 g [] []
  | cons {d y : D} {ds ys : List D} (h : g d y) (r : All2 g ds ys) : All2 g (d :: ds) (y :: ys)
/-- every item gives g of it; the env is the same up to I -/
theorem wp_comp {vs : List Nat} {t : D → M Unit} {f : M D} {R : List D → List D → Prop} {X : XP} (I : List D → Prop) (g : D → D → Prop) : ∀ (items acc : List D) {env : List D},
    (acc.length + items.length ≤ 16777216) → (∀ d ∈ items, ∀ e, I e → wp (t d) (wipeE vs e) (fun _ e1 => wp f e1 (fun y e2 => g d y ∧ I e2) fun _ _ _ => False) fun _ _ _ => False) → I env →
    (∀ l e, I e → (∃ ys, l = acc ++ ys ∧ All2 g items ys) → R l e) → wp (compD vs t (Pm.ret true) f items acc) env R X
  | [], acc, env, _, _, hI, k => ⟨k acc env hI ⟨[], by simp, .nil⟩⟩
  | d :: ds, acc, env, hl, hs, hI, k => by
    have h1 := hs d List.mem_cons_self env hI
    have h2 : wp (bnd (t d) fun _ => bnd (Pm.ret true) fun b => if b then bnd f fun y => Pm.ret (acc ++ [y]) else Pm.ret acc) (wipeE vs env) (fun acc' e => I e ∧ ∃ y, acc' = acc ++ [y] ∧ g d y) fun _ _ _ => False :=
      wp_bnd (wp_mono h1 fun _ e1 h3 => wp_bnd ⟨wp_bnd (wp_mono h3 fun y e2 h4 => ⟨h4.2, y, rfl, h4.1⟩)⟩)
    have h5 := h2.run
    refine ⟨?_⟩
    unfold wpD compD
    unfold wpD at h5
    split at h5
    · rename_i acc' e q
      rw [q]
      obtain ⟨h6, y, rfl, h7⟩ := h5
      have hz : (acc ++ [y]).length ≤ 16777216 := by simp at hl ⊢; omega
      simp only [if_pos hz]
      exact (wp_comp I g ds (acc ++ [y]) (X := X) (by simp at hl ⊢; omega) (fun d' hd' => hs d' (List.mem_cons_of_mem _ hd')) h6 fun l e' h8 ⟨ys, e9, h10⟩ => k l e' h8 ⟨y :: ys, by rw [e9]; simp, .cons h7 h10⟩).run
    · exact h5.elim
    · exact h5.elim
end Pm

namespace Pm
open PySem PySem.Spec PyProof.Rows L2 NdefX
/-! ### own exceptions: super().__init__(e), then the rest -/
section
variable {P : Program} {w : World} {K : PySem.W.Frag} {mg : Str → Option Value} {base : Heap}
/-- the wrapper called -/
theorem call_mw {A : Around} {E : Value → Shared → Prop} {C u e t0 : Addr} {h : Heap} {g : Array GenState} {d : Drawn} {t : Nat} {os : OsState} {nm q : Str} {N : Addr} {bs bm : List Value} {hdct : Bool} {sn : List Str} {sub : List Value} {ab : Bool} {col : Option Bool} {dd : Option Addr} {k0 k1 k2 k3 k5 : Option Value} {rest : List Value} {Q : Value → Shared → Prop}
    (hC : h.get? C = some (excClassObj nm q C N bs bm hdct sn sub ab col dd k0 k1 k2 k3 k5 "ValueError.__new__")) (he : h.get? e = some (PySem.HandSPX.excO C t0)) (hu : h.get? u = some (PySem.W.kxs_mw "ValueError.__init__" e)) (hrest : rest.length ≤ sizeLine)
    (hq : ∀ h' t1, (∀ b o, b ≠ e → h.get? b = some o → h'.get? b = some o) → h'.get? e = some (PySem.HandSPX.excO C t1) → Q .none ⟨h', g, d, t, os⟩) :
    wpAny (model P w) A (call (.ref u) rest) Q E ⟨h, g, d, t, os⟩ := by
  refine wpAny_call (codeAny_of_tree ?_)
  show wpAny _ A.in1 (callAny (.ref u) ⟨rest, []⟩) _ _ _
  simp only [callAny]
  refine wpAny_bind (wpAny_load hu ?_)
  simp only [PySem.W.kxs_mw, show (Value.type "method-wrapper" == Value.type "method" || Value.type "method-wrapper" == Value.type "builtin_function_or_method" || Value.type "method-wrapper" == Value.type "method-wrapper") = true by decide, if_true]
  refine PySem.W.KFB.if_so (by decide) ?_
  refine wpAny_bind (PySem.W.check_bound_init F.excBase_ValueError.toExcCallFacts hC he rfl ?_)
  refine wpAny_bind (wpAny_pure (wpAny_pure ?_))
  refine ⟨plainId_quiet F.excBase_ValueError.init.plain _, codeAny_builtin F.excBase_ValueError.initEntry ?_⟩
  exact PySem.W.exc_init_tree (cls := .ref C) (t0 := t0) (dv := none) (c2 := .none) (c3 := .none) (b4 := .bool false) he hrest fun h' k e' t' => hq h' _ k e'
/-- super().__init__(e), an own exception's first statement, then the rest -/
def tSup (K : PySem.W.Frag) (ta : TA) (ts : TS) (a : Addr) (C : Addr) : TS := fun D σ H => OexC K C ∧ H a = some (exo a C none) ∧ ta σ H fun vs H1 => vs.length ≤ 1000 ∧ H1 a = some (exo a C none) ∧ ts D σ H1
abbrev supNF (name qual : Str) (params : Arguments) (body : List Stmt) (scope : Scope) (cc cda : Addr) : NF := ⟨name, qual, params, body, scope, [("__class__", cc)], cda⟩
abbrev supB (e : Expr) (rest : List Stmt) (p0 p1 p2 p3 p4 : Pos) : List Stmt := .Expr (.Call (.Attribute (.Call (.Name "super" p0) [] [] p1) "__init__" p2) [e] [] p3) p4 :: rest
theorem fn_super {name qual : Str} {params : Arguments} {e : Expr} {rest : List Stmt} {scope : Scope} {cc cda f C : Addr} {p0 p1 p2 p3 p4 : Pos} {doc pm ctv oc ccl cl : Value} {od cdd cld : Option Addr} {osl ccs csl : Array (Option Value)} {vf : Array Value} {file : Str} {tf : Tok} {cdD : ClassData}
    {N ps : List Str} {self : Str} {ta : TA} {ts : TS} {sp : Sp}
    (lk : K.lookup f = some ⟨oc, od, .func ((supNF name qual params (supB e rest p0 p1 p2 p3 p4) scope cc cda).fd doc pm ctv), osl⟩)
    (hcd : PySem.W.codeIn K (.ref cda) qual = true) (hcode : K.lookup cda = some ⟨ccl, cdd, .fields vf, ccs⟩) (hvs : vf[2]? = some (.str file tf)) (hfile : ((P.main.file : Str) == file) = true)
    (hcell : K.lookup cc = some ⟨cl, cld, .cell (some (.ref C)), csl⟩) (hD : PySem.W.clsIn K C = some cdD) (hsub : PySem.W.mroIn K C (.ref C) = some true) (hsuper : mg "super" = none) (ho : PySem.W.nsIn K cStatics "thirdparty.any" = some none)
    (hin : PySem.W.ks_superIn K C C "__init__" = some (some (.builtin "ValueError.__init__"))) (hve : PySem.W.subIn K (.ref C) (.type "ValueError") = some true)
    (hks : scope.names.lookup ("super" : Str) = some .globalImplicit) (hkc : scope.names.lookup ("__class__" : Str) = some .free) (htop : (P.main.scope.names.lookup ("super" : Str)).isSome = false)
    (S : NScope N ps ["__class__"] scope) (hps : ps.head? = some self) (hself : ((params.posonlyargs ++ params.args).map (·.arg)).head? = some self)
    (len : ∀ vs H Q E, sp vs H Q E → vs.length = ps.length)
    (hint : ∀ L : Addr, interactive (envF (supNF name qual params (supB e rest p0 p1 p2 p3 p4) scope cc cda) f L) = false) {pl : Sem Bool}
    (hc : ∀ L : Addr, eval (.Call (.Attribute (.Call (.Name "super" p0) [] [] p1) "__init__" p2) [e] [] p3) (envF (supNF name qual params (supB e rest p0 p1 p2 p3 p4) scope cc cda) f L) = (do
      let ov ← attributeBase (.Call (.Name "super" p0) [] [] p1) "__init__" (envF (supNF name qual params (supB e rest p0 p1 p2 p3 p4) scope cc cda) f L) (eval (.Call (.Name "super" p0) [] [] p1) (envF (supNF name qual params (supB e rest p0 p1 p2 p3 p4) scope cc cda) f L))
      standAt p2.atName
      let (g, first) ← holding [ov] (getMethod ov "__init__" pl)
      callWith p3 g first (backTo p3 (starEach [e] (envF (supNF name qual params (supB e rest p0 p1 p2 p3 p4) scope cc cda) f L))) []))
    (hsw : ∀ L : Addr, swapsWith (.Call (.Attribute (.Call (.Name "super" p0) [] [] p1) "__init__" p2) [e] [] p3) none p4.line (envF (supNF name qual params (supB e rest p0 p1 p2 p3 p4) scope cc cda) f L) = pure false)
    (he : ∀ L : Addr, starEach [e] (envF (supNF name qual params (supB e rest p0 p1 p2 p3 p4) scope cc cda) f L) = [(false, eval e (envF (supNF name qual params (supB e rest p0 p1 p2 p3 p4) scope cc cda) f L))])
    (hbody : ∀ (A : Around) (outer : List Env) (s : Shared) (H : Hp) (E : XK),
      PA (ncx (L2.CX P w) P w K mg base N (supNF name qual params (supB e rest p0 p1 p2 p3 p4) scope cc cda) f A outer s H E) [e] ta ∧
      PSs (ncx (L2.CX P w) P w K mg base N (supNF name qual params (supB e rest p0 p1 p2 p3 p4) scope cc cda) f A outer s H E) rest ts)
    (hsp : ∀ vs H Q E, sp vs H Q E → ∃ a r, vs = V.ref a :: r ∧ tSup K ta ts a C { nx := fun _ H' => Q .non H', rt := Q } (startF N vs [some (.ref C)]) H) :
    FnOk P w K mg base (L2.CX P w) 1 f ((supNF name qual params (supB e rest p0 p1 p2 p3 p4) scope cc cda).fd doc pm ctv) ps sp := by
  refine ⟨len, fun A outer s H args us vs Q E hr e0 hb r hs => ?_⟩
  have hl := len _ _ _ _ hs
  obtain ⟨a, vr, rfl, T, ea, hq⟩ := hsp _ _ _ _ hs
  have KX : K.In s.heap := e0.mod.kin.keeps fun b o e => (e0.bs b o e).1
  have lim : s.heap.NoLimit := e0.mod.nolimit.keeps fun b o e => (e0.bs b o e).1
  refine ks_codeAny_call_defAt hr.depth (KX _ _ lk) rfl lim (PySem.W.codeRec_of KX hcd) rfl hb S.nocell (fun ⟨n, _⟩ hy => S.par n (List.of_mem_zip hy).1) (fun h₁ hns kp => ?_) S.co S.gen S.kind
  have KB : base.get? cc = some ⟨cl, cld, .cell (some (.ref C)), csl⟩ := e0.mod.kin _ _ hcell
  have CA : CellsAt [("__class__", cc)] ["__class__"] [some (V.ref C)] s.heap H := by
    have one : ∀ (y : Str) (c : Addr), [(("__class__" : Str), cc)].lookup y = some c → y = "__class__" ∧ c = cc := fun y c h => by
      by_cases e : y = "__class__"
      · subst e
        have : some cc = some c := h
        exact ⟨rfl, (Option.some.inj this).symm⟩
      · have z : (y == ("__class__" : Str)) = false := by simpa using e
        simp [List.lookup, z] at h
    refine ⟨rfl, fun y c h => ?_, fun x y c h1 h2 => (one x c h1).1.trans (one y c h2).1.symm, fun i y h => ?_⟩
    · obtain ⟨rfl, rfl⟩ := one y c h
      exact ⟨(e0.bs _ _ KB).2, _, _, KX _ _ hcell, rfl⟩
    · cases i with
      | zero =>
        have : y = "__class__" := by simpa using h.symm
        subst this
        refine ⟨cc, rfl, fun v hv => ?_⟩
        have : v = .ref C := by simpa using hv.symm
        subst this
        exact ⟨.ref C, rfl, _, KX _ _ hcell, rfl⟩
      | succ i => simp at h
  obtain ⟨pa, pss⟩ := hbody A outer s H E
  have I : Inv (ncx (L2.CX P w) P w K mg base N (supNF name qual params (supB e rest p0 p1 p2 p3 p4) scope cc cda) f A outer s H E) [] (startF N (V.ref a :: vr) [some (.ref C)]) H { s with heap := h₁, toks := s.toks + (ps.zip us).length } :=
    inv_startN S hr.hd e0 hl r CA hns kp
  have X1 : K.In h₁ := I.kIn
  have lf := X1 _ _ lk
  obtain ⟨oD, hD1, hD2⟩ : ∃ oD, h₁.get? C = some oD ∧ oD.data = .cls cdD := by
    unfold PySem.W.clsIn at hD
    split at hD
    · rename_i c d cd' sl ho
      cases hD
      exact ⟨_, X1 _ _ ho, rfl⟩
    · cases hD
  obtain ⟨t1, hea⟩ := exo_at I.hok ea
  have hl2 : ∃ u, (ps.zip us).reverse.lookup self = some u ∧ u = .ref a := by
    cases r with
    | @cons _ u0 _ ur ra rw' =>
      obtain rfl : u0 = Value.ref a := ra
      cases ps with
      | nil => simp at hps
      | cons p0 pr =>
        have : p0 = self := by simpa using hps
        subst this
        refine ⟨_, zip_look (i := 0) ?_ rfl rfl, rfl⟩
        have q := S.nd.sublist (List.take_sublist ((p0 :: pr).length + 1) N)
        rw [show (p0 :: pr).length + 1 = (p0 :: pr).length + (["__class__"] : List Str).length from rfl, S.pre] at q
        exact (List.nodup_append.mp q).1
  obtain ⟨_, hl2, rfl⟩ := hl2
  have hself2 : ∃ ar, (params.posonlyargs ++ params.args).head? = some ar ∧ ar.arg = self := by
    cases hq2 : params.posonlyargs ++ params.args with
    | nil => rw [hq2] at hself; simp at hself
    | cons ar l => rw [hq2] at hself; exact ⟨ar, rfl, by simpa using hself⟩
  obtain ⟨ar, har, rfl⟩ := hself2
  have hka : scope.names.lookup ar.arg = some .local := S.par _ (List.mem_of_mem_head? hps)
  obtain ⟨nm, qq, NN, bs, bm, sn, sub, ab, col, dd, k0, k1, k2, k3, k5, hC, hbm⟩ := T.cls
  show _root_.PySem.wpAt (model P w) (A.deeper (envF (supNF name qual params (supB e rest p0 p1 p2 p3 p4) scope cc cda) f s.heap.objs.size)) (.func (supB e rest p0 p1 p2 p3 p4) (envF (supNF name qual params (supB e rest p0 p1 p2 p3 p4) scope cc cda) f s.heap.objs.size)) (execs (supB e rest p0 p1 p2 p3 p4) (envF (supNF name qual params (supB e rest p0 p1 p2 p3 p4) scope cc cda) f s.heap.objs.size)) _ _ _
  refine ks_wpAt_execs_cons (ks_wpAt_Expr_any (ks_wpAt_MethodCall (pl := pl) ?_ (hc s.heap.objs.size)) (hint s.heap.objs.size) (hsw s.heap.objs.size))
  refine ks_wpAt_super_base (env := envF (supNF name qual params (supB e rest p0 p1 p2 p3 p4) scope cc cda) f s.heap.objs.size) hks hkc (by decide) rfl lf rfl har rfl (X1 _ _ hcode) rfl hvs hfile htop ?_
  obtain ⟨mb, hb1, hb2⟩ := I.mod.blt
  refine PySem.W.ks_loadName_global S.kind hks (Calls.loadGlobal_builtin (I.mod.glob.keeps I.bk) hsuper (hb1.keeps I.bk) ((hb2 "super" (by decide)).trans (by decide +kernel)) ⟨rfl, ?_⟩)
  refine wpAny_loadName_free S.kind hkc rfl ⟨_, X1 _ _ hcell, rfl⟩ ?_
  refine wpAny_loadName_local S.kind hka hns hl2 ?_
  refine ks_wpAny_isType_cls hD1 hD2 ⟨rfl, ?_⟩
  refine ks_wpAny_call_super hD1 hD2 hea rfl (fun c e => by cases e) (PySem.W.looks_mroIn X1 hsub) (fun h' e1 k => ?_)
  have I2 := I.kept (t' := s.toks + (ps.zip us).length) k
  have X2 : K.In h' := I2.kIn
  have hea2 := k _ _ hea
  have hcl : PySem.W.clsIn K C = some { name := nm, bases := bs, mro := .ref C :: bm, ns := NN, qualname := qq, hasDict := true, slotNames := sn, subclasses := sub, abstract := ab, collection := col, hasDel := false } := by unfold PySem.W.clsIn; rw [hC] <;> rfl
  have hinI : PySem.W.Looks (model P w) h' (isInstance (.ref a) (.type "ValueError")) true := (⟨hea2, rfl, rfl, trivial⟩ : PySem.W.InstAt h' a _ C none).type.andThen (PySem.W.looks_subIn X2 hve)
  refine PySem.W.kxs_getMethod PySem.W.kxs_ValueError e1 (PySem.W.looks_opaque X2 ho) (l₀ := .ref C :: bm) ?_ rfl X2 ?_ hinI ?_ (by decide) ?_
  · exact fun A Q E s kk q => wpAny_bind ((PySem.W.looks_clsIn X2 hcl) A _ E s kk (wpAny_pure q))
  · unfold PySem.W.ks_superIn at hin
    rw [hcl] at hin
    exact hin
  · rintro rfl
    rw [(X2 _ _ hC)] at hea2
    cases hea2
  · have k3 : ∀ b o, h₁.get? b = some o → (h'.push (PySem.W.kxs_mw "ValueError.__init__" a)).get? b = some o := fun b o q => Heap.get?_push_of_some _ (k b o q)
    have hu : (h'.push (PySem.W.kxs_mw "ValueError.__init__" a)).get? h'.objs.size = some (PySem.W.kxs_mw "ValueError.__init__" a) := Heap.get?_push_at rfl rfl
    have I3 := (I.kept (t' := s.toks + (ps.zip us).length + 1) k3).pins_of (pins' := [(h'.objs.size, PySem.W.kxs_mw "ValueError.__init__" a)]) fun p hp => by
      obtain rfl := List.mem_singleton.mp hp
      exact ⟨hu, I2.hok.fresh (Nat.le_refl _), Nat.ne_of_gt I2.lt, I2.nofs (Nat.le_refl _), fun v => by intro q; cases q⟩
    rw [he]
    refine PySem.W.kxs_callWith (i := "ValueError.__init__") (x := a) rfl (PySem.Calls.evalArgs_plain ?_)
    have pr := pa.run p3 _ _ _ _ _ I3 hq
    rw [show starEach [e] (ncx (L2.CX P w) P w K mg base N (supNF name qual params (supB e rest p0 p1 p2 p3 p4) scope cc cda) f A outer s H E).env = [(false, eval e (ncx (L2.CX P w) P w K mg base N (supNF name qual params (supB e rest p0 p1 p2 p3 p4) scope cc cda) f A outer s H E).env)] from he _] at pr
    refine thn pr fun us' s4 ⟨vs4, H4, I4, r4, hlen, ea4, hrest⟩ => ?_
    have pu := (I4.pin _ (List.mem_append_right _ (List.mem_singleton.mpr rfl))).1
    refine ⟨pu, ?_⟩
    obtain ⟨t4, hea4⟩ := exo_at I4.hok ea4
    obtain ⟨hp4, g4, d4, tk4, os4⟩ := s4
    refine call_mw (I4.kIn _ _ hC) hea4 pu (by show us'.length ≤ sizeLine; rw [← r4.length, sizeLine_eq]; omega) fun h5 t5 k5 e5 => ?_
    have J := I4.write (t' := tk4) (x := a) (e := a) (o := exo a C none) (by rw [ea4]; exact True.intro) (.inl rfl) k5 ⟨_, e5⟩ (exo_ok e5)
    have eu : upd H4 a (exo a C none) = H4 := by
      funext b
      by_cases hb : b = a
      · rw [hb, upd_same, ea4]
      · rw [upd_ne hb]
    rw [eu] at J
    have J0 := J.pins_of (pins' := []) fun p hp => J.pin p (List.mem_append_left _ (by simpa using hp))
    refine wpAt_of_wpAny (wpAny_mono (pss.run [] _ _ H4 _ J0 hrest) (fun fl s' hs => ?_) fun e s' hs => hs)
    have fin : ∀ {σ' : L2.St} {H' : Hp} {v : V} {u : Value}, Inv (ncx (L2.CX P w) P w K mg base N (supNF name qual params (supB e rest p0 p1 p2 p3 p4) scope cc cda) f A outer s H E) [] σ' H' s' → L2.RelV v u → Q v H' → CE outer P w H s Q u s' :=
      fun {σ' H' v u} J rv q => ⟨v, H', J.os, J.bare, J.base, J.hok, rv, q⟩
    cases fl with
    | ret u =>
      obtain ⟨v, σ', H', J, rv, q⟩ := hs
      exact fin J rv q
    | next =>
      obtain ⟨σ', H', J, q⟩ := hs
      exact fin (v := V.non) (u := Value.none) J rfl q
    | brk =>
      obtain ⟨_, _, _, q⟩ := hs
      exact False.elim q
    | cont =>
      obtain ⟨_, _, _, q⟩ := hs
      exact False.elim q
end
end Pm

namespace Pm
open PySem PySem.Spec PyProof.Rows L2 NdefX
/-! ### an own exception with fields: its __init__'s promise -/
/-- what an f-string takes here -/
def fmtD : D → Bool
  | .str y => decide (y.length ≤ 100000)
  | .int i => decide (i.natAbs.log2 < 1920)
  | _ => false
def fmtV (v : V) : Prop := (∃ y : Str, v = .str y ∧ y.length ≤ 100000) ∨ ∃ i : Int, v = .int i ∧ i.natAbs.log2 < 1920
/-- the parts of an f-string: a text, a name -/
inductive FP where
  | c (s : Str)
  | v (i : Nat)
def tFP : FP → TE
  | .c s => fun σ H Q => Q (.str s) H
  | .v i => tFmt fun σ H Q => ∃ x, σ[i]? = some (some x) ∧ Q x H
theorem str_app_len (a b : Str) : (a ++ b).length = a.length + b.length := by first | exact Str.length_append _ _ | simp
def fpOk (σ : Sl) : FP → Prop
  | .c s => s.length ≤ 1000
  | .v i => ∃ x, σ[i]? = some (some x) ∧ fmtV x
theorem tJs_ok {σ : Sl} {Q : Str → Hp → Prop} : ∀ (ps : List FP) (acc : Str) (H : Hp), (∀ p ∈ ps, fpOk σ p) → acc.length + 100000 * ps.length ≤ 16777216 → (∀ z, Q z H) → tJs (ps.map tFP) acc σ H Q
  | [], acc, H, _, _, q => q acc
  | .c s :: ps, acc, H, h, hl, q => by
    have h1 : s.length ≤ 1000 := h _ List.mem_cons_self
    simp only [List.length_cons] at hl
    refine ⟨s, rfl, by rw [str_app_len, sizeLine_eq]; omega, tJs_ok ps _ H (fun p hp => h p (List.mem_cons_of_mem _ hp)) (by rw [str_app_len]; omega) q⟩
  | .v i :: ps, acc, H, h, hl, q => by
    obtain ⟨x, e, hx⟩ := h _ List.mem_cons_self
    simp only [List.length_cons] at hl
    refine ⟨x, e, ?_⟩
    rcases hx with ⟨y, rfl, hy⟩ | ⟨j, rfl, hj⟩
    · refine .inl ⟨y, rfl, by rw [sizeLine_eq]; omega, y, rfl, by rw [str_app_len, sizeLine_eq]; omega, tJs_ok ps _ H (fun p hp => h p (List.mem_cons_of_mem _ hp)) (by rw [str_app_len]; omega) q⟩
    · have hz : (Str.ofString (toString j)).length ≤ 1921 := by rw [PySem.ofString_length]; exact int_text_length_le (k := 1920) (by decide) hj
      refine .inr ⟨j, rfl, hj, _, rfl, by rw [str_app_len, sizeLine_eq]; omega, tJs_ok ps _ H (fun p hp => h p (List.mem_cons_of_mem _ hp)) (by rw [str_app_len]; omega) q⟩
/-- the promise of C's __init__ with the fields fs, one a parameter -/
def spX (K : PySem.W.Frag) (C : Addr) (fs : List Str) : Sp := fun vs H Q E => ∃ a r, vs = V.ref a :: r ∧ r.length = fs.length ∧ (∀ v ∈ r, fmtV v) ∧ OexC K C ∧ H a = some (exo a C none) ∧
  ∀ H' dx, H dx = none → dx ≠ a → H' a = some (exo a C (some dx)) → H' dx = some (exd dx (fs.zip r).reverse) → (∀ b, b ≠ a → b ≠ dx → H' b = H b) → Q .non H'
/-- self.f = p, one behind the other -/
def tFd (K : PySem.W.Frag) (i : Nat) (f : Str) : TS := tOst K f (fun σ H Q => ∃ x, σ[0]? = some (some x) ∧ Q x H) (fun σ H Q => ∃ x, σ[i]? = some (some x) ∧ Q x H)
def tSt (K : PySem.W.Frag) : Nat → List Str → TS
  | _, [] => tNext
  | i, f :: fs => tSeq (tFd K i f) (tSt K (i + 1) fs)
inductive PSt (X : Cx) : Nat → List Stmt → List Str → Prop where
  | nil {i : Nat} : PSt X i [] []
  | cons {i : Nat} {st : Stmt} {sts : List Stmt} {f : Str} {fs : List Str} (h : PS X st (tFd X.K i f)) (r : PSt X (i + 1) sts fs) : PSt X i (st :: sts) (f :: fs)
theorem PSt.run {X : Cx} {i : Nat} {sts : List Stmt} {fs : List Str} (h : PSt X i sts fs) : PSs X sts (tSt X.K i fs) := by
  induction h with
  | nil => exact pss_nil
  | cons h r ih => exact pss_cons h ih
theorem tSt_more {K : PySem.W.Frag} {C a dx : Addr} (T : OexC K C) (ne : dx ≠ a) : ∀ (fs : List Str) {i : Nat} {σ : Sl} {H : Hp} {D : Ends} {r : List V} {done : List (Str × V)}, (∀ f ∈ fs, PySem.W.findIn K (.ref C) f = some none) → σ[0]? = some (some (.ref a)) → r.length = fs.length →
    (∀ (k : Nat) (v : V), r[k]? = some v → σ[i + k]? = some (some v)) → done.length + fs.length ≤ 900 → H a = some (exo a C (some dx)) → H dx = some (exd dx done) →
    (∀ H', H' a = some (exo a C (some dx)) → H' dx = some (exd dx ((fs.zip r).reverse ++ done)) → (∀ b, b ≠ a → b ≠ dx → H' b = H b) → D.nx σ H') → tSt K i fs D σ H
  | [], i, σ, H, D, r, done, hf, h0, hl, hs, hd, ha, hx, k => by
    have : r = [] := List.length_eq_zero_iff.mp hl
    subst this
    exact k H ha hx fun _ _ _ => rfl
  | f :: fs, i, σ, H, D, [], done, hf, h0, hl, hs, hd, ha, hx, k => by simp at hl
  | f :: fs, i, σ, H, D, y :: r, done, hf, h0, hl, hs, hd, ha, hx, k => by
    simp only [List.length_cons] at hd hl
    refine ⟨y, hs 0 y rfl, _, h0, a, C, rfl, T, hf f List.mem_cons_self, .inr ⟨dx, done, ha, hx, by omega, ?_⟩⟩
    refine tSt_more T ne fs (D := D) (r := r) (done := (f, y) :: done) (fun g hg => hf g (List.mem_cons_of_mem _ hg)) h0 (by omega) (fun k v e => ?_) (by simp only [List.length_cons]; omega) (by rw [upd_ne (Ne.symm ne)]; exact ha) upd_same fun H' h1 h2 h3 => k H' h1 ?_ fun b n1 n2 => (h3 b n1 n2).trans (upd_ne n2)
    · have := hs (k + 1) v (by simpa using e)
      rw [show i + 1 + k = i + (k + 1) by omega]; exact this
    · rw [h2, List.zip_cons_cons, List.reverse_cons, List.append_assoc]; rfl
theorem tSt_first {K : PySem.W.Frag} {C a : Addr} {f : Str} {fs : List Str} (T : OexC K C) {i : Nat} {σ : Sl} {H : Hp} {D : Ends} {r : List V} (hf : ∀ g ∈ f :: fs, PySem.W.findIn K (.ref C) g = some none) (h0 : σ[0]? = some (some (.ref a))) (hl : r.length = (f :: fs).length)
    (hs : ∀ (k : Nat) (v : V), r[k]? = some v → σ[i + k]? = some (some v)) (hd : (f :: fs).length ≤ 900) (ha : H a = some (exo a C none))
    (k : ∀ H' dx, H dx = none → dx ≠ a → H' a = some (exo a C (some dx)) → H' dx = some (exd dx ((f :: fs).zip r).reverse) → (∀ b, b ≠ a → b ≠ dx → H' b = H b) → D.nx σ H') : tSt K i (f :: fs) D σ H := by
  cases r with
  | nil => simp at hl
  | cons y r =>
    simp only [List.length_cons] at hd hl
    refine ⟨y, hs 0 y rfl, _, h0, a, C, rfl, T, hf f List.mem_cons_self, .inl ⟨ha, fun dx n ne => ?_⟩⟩
    refine tSt_more T ne fs (D := D) (r := r) (done := [(f, y)]) (fun g hg => hf g (List.mem_cons_of_mem _ hg)) h0 (by omega) (fun k v e => ?_) (by simp only [List.length_cons, List.length_nil]; omega) upd_same (by rw [upd_ne ne]; exact upd_same) fun H' h1 h2 h3 => k H' dx n ne h1 ?_ fun b n1 n2 => (h3 b n1 n2).trans ?_
    · have := hs (k + 1) v (by simpa using e)
      rw [show i + 1 + k = i + (k + 1) by omega]; exact this
    · rw [h2, List.zip_cons_cons, List.reverse_cons]
    · rw [upd_ne n1, upd_ne n2]
section
variable {P : Program} {w : World} {K : PySem.W.Frag} {mg : Str → Option Value} {base : Heap}
def fpIn (n : Nat) : FP → Bool
  | .c s => decide (s.length ≤ 1000)
  | .v i => decide (1 ≤ i) && decide (i ≤ n)
theorem fn_exc {name qual : Str} {params : Arguments} {es : List Expr} {v1 v2 : Expr} {e : Expr} {rest body : List Stmt} {scope : Scope} {cc cda f C : Addr} {p0 p1 p2 p3 p4 pj : Pos} {doc pm ctv oc ccl cl : Value} {od cdd cld : Option Addr} {osl ccs csl : Array (Option Value)} {vf : Array Value} {file : Str} {tf : Tok} {cdD : ClassData}
    {N ps : List Str} {self f0 : Str} {fs : List Str} {fps : List FP} (hB : body = supB e rest p0 p1 p2 p3 p4) (hE : e = .JoinedStr (v1 :: v2 :: es) pj)
    (lk : K.lookup f = some ⟨oc, od, .func ((supNF name qual params body scope cc cda).fd doc pm ctv), osl⟩)
    (hcd : PySem.W.codeIn K (.ref cda) qual = true) (hcode : K.lookup cda = some ⟨ccl, cdd, .fields vf, ccs⟩) (hvs : vf[2]? = some (.str file tf)) (hfile : ((P.main.file : Str) == file) = true)
    (hcell : K.lookup cc = some ⟨cl, cld, .cell (some (.ref C)), csl⟩) (hD : PySem.W.clsIn K C = some cdD) (hsub : PySem.W.mroIn K C (.ref C) = some true) (hsuper : mg "super" = none) (ho : PySem.W.nsIn K cStatics "thirdparty.any" = some none)
    (hin : PySem.W.ks_superIn K C C "__init__" = some (some (.builtin "ValueError.__init__"))) (hve : PySem.W.subIn K (.ref C) (.type "ValueError") = some true)
    (hks : scope.names.lookup ("super" : Str) = some .globalImplicit) (hkc : scope.names.lookup ("__class__" : Str) = some .free) (htop : (P.main.scope.names.lookup ("super" : Str)).isSome = false)
    (S : NScope N ps ["__class__"] scope) (hps : ps.head? = some self) (hself : ((params.posonlyargs ++ params.args).map (·.arg)).head? = some self) (hlen : ps.length = (f0 :: fs).length + 1) (hsm : (f0 :: fs).length ≤ 900)
    (hint : ∀ L : Addr, interactive (envF (supNF name qual params body scope cc cda) f L) = false) {pl : Sem Bool}
    (hc : ∀ L : Addr, eval (.Call (.Attribute (.Call (.Name "super" p0) [] [] p1) "__init__" p2) [e] [] p3) (envF (supNF name qual params body scope cc cda) f L) = (do
      let ov ← attributeBase (.Call (.Name "super" p0) [] [] p1) "__init__" (envF (supNF name qual params body scope cc cda) f L) (eval (.Call (.Name "super" p0) [] [] p1) (envF (supNF name qual params body scope cc cda) f L))
      standAt p2.atName
      let (g, first) ← holding [ov] (getMethod ov "__init__" pl)
      callWith p3 g first (backTo p3 (starEach [e] (envF (supNF name qual params body scope cc cda) f L))) []))
    (hsw : ∀ L : Addr, swapsWith (.Call (.Attribute (.Call (.Name "super" p0) [] [] p1) "__init__" p2) [e] [] p3) none p4.line (envF (supNF name qual params body scope cc cda) f L) = pure false)
    (he : ∀ L : Addr, starEach [e] (envF (supNF name qual params body scope cc cda) f L) = [(false, eval e (envF (supNF name qual params body scope cc cda) f L))])
    (hj : ∀ (A : Around) (outer : List Env) (s : Shared) (H : Hp) (E : XK), PJ (ncx (L2.CX P w) P w K mg base N (supNF name qual params body scope cc cda) f A outer s H E) (v1 :: v2 :: es) (fps.map tFP))
    (hfp : fps.all (fpIn (f0 :: fs).length) = true) (hfl : fps.length ≤ 100)
    (hst : ∀ (A : Around) (outer : List Env) (s : Shared) (H : Hp) (E : XK), PSt (ncx (L2.CX P w) P w K mg base N (supNF name qual params body scope cc cda) f A outer s H E) 1 rest (f0 :: fs))
    (hfs : ∀ g ∈ f0 :: fs, PySem.W.findIn K (.ref C) g = some none) :
    FnOk P w K mg base (L2.CX P w) 1 f ((supNF name qual params body scope cc cda).fd doc pm ctv) ps (spX K C (f0 :: fs)) := by
  subst hB
  subst hE
  refine fn_super (ts := tSt K 1 (f0 :: fs)) (sp := spX K C (f0 :: fs)) lk hcd hcode hvs hfile hcell hD hsub hsuper ho hin hve hks hkc htop S hps hself (fun vs H Q E h => ?_) hint hc hsw he (fun A outer s H E => ⟨pa_cons (pe_joined (hj A outer s H E)) pa_nil (he _), (hst A outer s H E).run⟩) (fun vs H Q E h => ?_)
  · obtain ⟨a, r, rfl, h1, _⟩ := h
    rw [hlen, List.length_cons, h1]
  · obtain ⟨a, r, rfl, h1, h2, T, ha, k⟩ := h
    have hs : ∀ (j : Nat) (v : V), r[j]? = some v → (startF N (V.ref a :: r) [some (V.ref C)])[1 + j]? = some (some v) := fun j v e => by
      have hj' : j < r.length := (List.getElem?_eq_some_iff.mp e).1
      unfold startF
      rw [List.getElem?_append_left (by simp; omega), List.map_cons, show 1 + j = j + 1 by omega, List.getElem?_cons_succ, List.getElem?_map, e]; rfl
    refine ⟨a, r, rfl, T, ha, ?_⟩
    refine tJs_ok fps _ H (fun p hp => ?_) (by show 0 + 100000 * fps.length ≤ 16777216; omega) fun z => ⟨by simp, ha, ?_⟩
    · have q := List.all_eq_true.mp hfp p hp
      cases p with
      | c s =>
        show s.length ≤ 1000
        have z : decide (s.length ≤ 1000) = true := q
        exact of_decide_eq_true z
      | v i =>
        unfold fpIn at q
        obtain ⟨q1, q2⟩ := Bool.and_eq_true_iff.mp q
        have q1 := of_decide_eq_true q1
        have q2 := of_decide_eq_true q2
        have hi : i - 1 < r.length := by omega
        have := hs (i - 1) r[i - 1] (List.getElem?_eq_getElem hi)
        rw [show 1 + (i - 1) = i by omega] at this
        exact ⟨_, this, h2 _ (List.getElem_mem hi)⟩
    · refine tSt_first T hfs rfl h1 hs hsm ha fun H' dx n ne e1 e2 e3 => k H' dx n ne e1 e2 e3
end
/-! ### raise C(e, ..) -/
section
variable {K : PySem.W.Frag} {c : Cn} {σ : Sl} {H : Hp} {tv vs : List V} {env td ds : List D} {v : V} {d : D}
theorem fmt_sv {d : D} (h : fmtD d = true) : ∃ v, sv d = some v ∧ fmtV v := by
  cases d <;> simp only [fmtD] at h <;> first | (cases h; done) | skip
  · rename_i i; exact ⟨.int i, rfl, .inr ⟨i, rfl, of_decide_eq_true h⟩⟩
  · rename_i y; exact ⟨.str y, rfl, .inl ⟨y, rfl, of_decide_eq_true h⟩⟩
theorem repL_rev {cl : ClT} {R H : Hp} : ∀ {ds : List D} {vs : List V}, RepL K cl R H [] vs ds → RepL K cl R H [] vs.reverse ds.reverse
  | [], _, h => by obtain ⟨_, rfl⟩ := RepL.nil_iff.mp h; exact RepL.nil_iff.mpr ⟨rfl, rfl⟩
  | d :: ds, _, h => by
    obtain ⟨f, g, x, xs, e, rfl, h1, h2⟩ := RepL.cons_iff.mp h
    obtain ⟨rfl, rfl⟩ := List.append_eq_nil_iff.mp e.symm
    rw [List.reverse_cons, List.reverse_cons]
    have := (repL_rev h2).append (RepL.cons h1 (RepL.nil_iff.mpr ⟨rfl, rfl⟩))
    simpa using this
theorem fmt_rep {cl : ClT} {R H : Hp} : ∀ {ds : List D} {vs : List V} {fp : List Addr}, ds.all fmtD = true → RepL K cl R H fp vs ds → fp = [] ∧ (∀ v ∈ vs, fmtV v) ∧ ∀ R' H', RepL K cl R' H' [] vs ds
  | [], _, _, _, h => by obtain ⟨rfl, rfl⟩ := RepL.nil_iff.mp h; exact ⟨rfl, (fun _ z => nomatch z), fun R' H' => RepL.nil_iff.mpr ⟨rfl, rfl⟩⟩
  | d :: ds, _, _, hd, h => by
    obtain ⟨f, g, x, xs, rfl, rfl, h1, h2⟩ := RepL.cons_iff.mp h
    simp only [List.all_cons, Bool.and_eq_true] at hd
    obtain ⟨v, e, hv⟩ := fmt_sv hd.1
    obtain ⟨rfl, rfl⟩ := h1.sv e
    obtain ⟨rfl, h3, h4⟩ := fmt_rep hd.2 h2
    refine ⟨rfl, fun v hv' => ?_, fun R' H' => RepL.cons (f := []) (g := []) (rep_sv e) (h4 R' H')⟩
    rcases List.mem_cons.mp hv' with z | z
    · rw [z]; exact hv
    · exact h3 v z
theorem zip_fst {α β : Type} : ∀ {l : List α} {r : List β}, r.length = l.length → (l.zip r).map (·.1) = l ∧ (l.zip r).map (·.2) = r
  | [], [], _ => ⟨rfl, rfl⟩
  | [], _ :: _, h => by simp at h
  | _ :: _, [], h => by simp at h
  | a :: l, b :: r, h => by
    obtain ⟨h1, h2⟩ := zip_fst (l := l) (r := r) (by simpa using h)
    exact ⟨by simp [h1], by simp [h2]⟩
/-- the exception's dict, new and shared -/
theorem A.newX {q : Nat} {fs : List Str} {p : Addr} (a : A K c σ H (vs ++ tv) env (ds ++ td)) (hl : vs.length = ds.length) (hp : H p = none) (hd : ds.all fmtD = true) (hf : c.cl.fl q = fs.reverse) (hfl : ds.length = fs.length) :
    A K c σ (upd H p (.xd (fs.zip vs).reverse)) (.ref p :: tv) env (.xd q ds.reverse :: td) := by
  obtain ⟨R, gs, ft, S⟩ := a
  obtain ⟨f, g, rfl, h1, h2⟩ := S.temps.split hl
  obtain ⟨rfl, h3, h4⟩ := fmt_rep hd h1
  have ev : Ev R H [] (upd R p (.xd (fs.zip vs).reverse)) (upd H p (.xd (fs.zip vs).reverse)) := Ev.allocT S.same hp
  have hpf : ∀ b ∈ gs ++ ([] ++ g), b ≠ p := fun b hb q => by
    obtain ⟨o, z⟩ := (S.own b hb).2.1
    rw [q, hp] at z; cases z
  obtain ⟨z1, z2⟩ := zip_fst (l := fs) (r := vs) (by omega)
  refine ⟨upd R p (.xd (fs.zip vs).reverse), gs, [] ++ g, SI.goT (f := []) (vs1 := [.ref p]) (ds1 := [.xd q ds.reverse]) (f1 := []) S h2 ev (fun b hb => ?_) ?_ List.nodup_nil fun b hb => nomatch hb⟩
  · rw [upd_ne (hpf b (by simpa using hb))]
    exact (S.own b (by simpa using hb)).1
  · have : RepL K c.cl (upd R p (.xd (fs.zip vs).reverse)) (upd H p (.xd (fs.zip vs).reverse)) ([] ++ []) [.ref p] [.xd q ds.reverse] := RepL.cons (by
      simp only [Rep]
      refine ⟨trivial, .inr ⟨p, (fs.zip vs).reverse, rfl, upd_same, ?_, ?_⟩⟩
      · rw [List.map_reverse, z1, hf]
      · rw [List.map_reverse, z2]
        exact repL_rev (h4 _ _)) (RepL.nil_iff.mpr ⟨rfl, rfl⟩)
    simpa using this
end
def sRaise (q n : Nat) (m : M (List D)) : M Fl := bnd m fun ds env => if ds.length = n then (if ds.all fmtD then .ex q ds.reverse env else .bad) else .bad
section
variable {X : Cx} {c : Cn} {e : Expr} {es : List Expr} {pos p p' : Pos} {tk : List (Option Nat)} {m : M (List D)} {k q : Nat} {C fI : Addr} {fd : FuncData} {ps : List Str} {fs : List Str} {x : Str}
theorem s_raise (hc : X.calm = true) (tkW : Takes X c.W) (T : OexC X.K C) (iC : PySem.W.findIn X.K (.ref C) "__init__" = some (some (.ref fI))) (tI : PySem.W.typeIn X.K (.ref fI) = some (.type "function"))
    (F1 : FnOk X.prog X.w X.K X.mg X.base (L2.CX X.prog X.w) 1 fI fd ps (spX X.K C fs)) (hr : Room 2 X.A) (hb : Binds X.K fd ps []) (hx : Passes (L2.CX X.prog X.w) X (fun _ _ _ => False)) (hg : Gl X x) (hm : X.mg x = some (.ref C)) (hq : c.cl.ad q = some C) (hf : c.cl.fl q = fs.reverse) (hfs : fs.length ≤ 1000)
    (ha : PA X (e :: es) (tA X.K c tk m)) (hdb : (x == ("__debug__" : Str)) = false := by decide) (he : starEach (e :: es) X.env = (false, eval e X.env) :: starEach es X.env := by rfl) (hpl : (backTo pos (starEach es X.env)).any (·.1) = false := by rfl) :
    PS X (.Raise (some (.Call (.Name x p) (e :: es) [] pos)) none p') (tS X.K c (sRaise q fs.length m)) :=
  (ps_raise hc tkW (pmk_oex (CX := L2.CX X.prog X.w) (dvs := []) (ds := []) T iC tI F1 hr hb .nil hx hg hm ha hdb he hpl)).imp fun D σ H ⟨tv, env, td, a, ok⟩ => by
    refine ⟨tv, env, td, a, ?_⟩
    unfold sRaise at ok
    refine (ok.bnd σ).mono fun ds e1 ok1 H1 vs hl hk a1 => ?_
    by_cases h1 : ds.length = fs.length
    · rw [if_pos h1] at ok1
      cases h2 : ds.all fmtD with
      | false => rw [h2] at ok1; exact ok1.elim
      | true =>
        rw [h2, if_pos rfl] at ok1
        obtain ⟨hfm⟩ : (∀ v ∈ vs, fmtV v) ∧ True := by
          obtain ⟨R, gs, ft, S⟩ := id a1
          obtain ⟨f, g, _, h3, _⟩ := S.temps.split hl
          exact ⟨(fmt_rep h2 h3).2.1, trivial⟩
        refine ⟨by omega, fun x hx => ⟨x, vs, by rw [List.append_nil], by omega, hfm, T, upd_same, fun H' dx n ne e1' e2 e3 => ⟨rfl, dx, _, e1', e2, ?_, ?_⟩⟩⟩
        · rw [upd_ne ne] at n; exact n
        · rw [upd_ne ne] at n
          have eH : upd (del H' x) dx (.xd (fs.zip vs).reverse) = upd H1 dx (.xd (fs.zip vs).reverse) := by
            funext b
            by_cases hb : b = dx
            · rw [hb, upd_same, upd_same]
            · rw [upd_ne hb, upd_ne hb]
              by_cases hbx : b = x
              · rw [hbx, del_same, hx]
              · rw [del_ne hbx, e3 b hbx hb, upd_ne hbx]
          rw [eH]
          exact ok1 σ _ _ _ ⟨C, .ref dx, hq, rfl, .inr ⟨dx, rfl, rfl⟩, a1.newX hl n h2 hf h1⟩
    · rw [if_neg h1] at ok1; exact ok1.elim
end
end Pm

namespace Pm
open PySem PySem.Spec PyProof.Rows L2
/-! ### try: body except X as e: suite -/
def orB (l : List Bool) (i : Nat) : List Bool := (l ++ List.replicate (i + 1 - l.length) false).set i true
theorem orB_self {l : List Bool} {i : Nat} : (orB l i).getD i false = true := by
  unfold orB
  rw [List.getD_eq_getElem?_getD, List.getElem?_set_self (by simp; omega)]; rfl
theorem orB_ne {l : List Bool} {i j : Nat} (h : j ≠ i) : (orB l i).getD j false = l.getD j false := by
  unfold orB
  rw [List.getD_eq_getElem?_getD, List.getElem?_set_ne (Ne.symm h), List.getD_eq_getElem?_getD]
  by_cases hj : j < l.length
  · rw [List.getElem?_append_left hj]
  · rw [List.getElem?_append_right (by omega), List.getElem?_eq_none (l := l) (by omega), List.getElem?_replicate]
    split <;> rfl
/-- what the suite knows of the exception at a: its class's number, its fields -/
structure SuF (K : PySem.W.Frag) (cl : ClT) (E : Ent) (i q : Nat) (fs : List D) (a C : Addr) (d : Option Addr) : Prop where
  ad : cl.ad q = some C
  sl : E.σ[i]? = some (some (.ref a))
  fd : (d = none ∧ fs = [] ∧ cl.fl q = []) ∨ ∃ dd fv, d = some dd ∧ E.R dd = some (.xd fv) ∧ fv.map (·.1) = cl.fl q ∧ RepL K cl E.R E.H [] (fv.map (·.2)) fs
section
variable {K : PySem.W.Frag} {cl : ClT} {mk : List Bool} {E : Ent} {R H H' : Hp} {fs ft : List Addr} {σ σ' : Sl} {env env' : List D} {tv tv' : List V} {td td' : List D} {i : Nat} {v : V} {W W2 : WX}
theorem A.rebase (S : SI K cl mk E R H fs ft σ env tv td) (hi : mk.getD i false = false) (a2 : A K ⟨cl, orB mk i, ⟨R, H, fs ++ ft, σ.set i (some v)⟩, W2⟩ σ' H' tv' env' td') : A K ⟨cl, mk, E, W⟩ σ' H' tv' env' td' := by
  obtain ⟨R', fs', ft', S2⟩ := a2
  refine ⟨R', fs', ft', S.ev.trans S2.ev (fun x hx => (S.own x hx).2.2), S2.slots, S2.temps, S2.nd, fun b hb => ?_, fun j hj => ?_⟩
  · obtain ⟨h1, h2, h3⟩ := S2.own b hb
    refine ⟨h1, h2, ?_⟩
    rcases h3 with h3 | h3
    · exact (S.own b h3).2.2
    · cases q : E.H b with
      | none => exact .inr rfl
      | some o =>
        obtain ⟨o', z⟩ := S.ev.l b o q
        have h3' : H b = none := h3
        rw [h3'] at z; cases z
  · have hj' : mk.getD j false = true := hj
    have ne : j ≠ i := fun z => by rw [z, hi] at hj'; cases hj'
    have h1 := S2.fix j (by show (orB mk i).getD j false = true; rw [orB_ne ne]; exact hj')
    exact (h1.trans (List.getElem?_set_ne (Ne.symm ne))).trans (S.fix j hj')
theorem A.toSuite (S : SI K cl mk E R H fs ft σ env tv td) : A K ⟨cl, orB mk i, ⟨R, H, fs ++ ft, σ.set i (some v)⟩, W2⟩ (σ.set i (some v)) H tv (env.set i .un) td := by
  have a0 : A K ⟨cl, [], ⟨R, H, fs ++ ft, σ⟩, W2⟩ σ H tv env td := ⟨R, fs, ft, Ev.refl S.same, S.slots, S.temps, S.nd, fun b hb => ⟨(S.own b hb).1, (S.own b hb).2.1, .inl hb⟩, fun j hj => by cases j <;> cases hj⟩
  have a1 := A.reslot (vs := [i]) (σ' := σ.set i (some v)) (fun j _ => by show ([] : List Bool).getD j false = false; cases j <;> rfl) (by simp) (fun j hj => List.getElem?_set_ne (fun z => hj (by simp [z]))) a0
  obtain ⟨R', fs', ft', S'⟩ := a1
  exact ⟨R', fs', ft', S'.ev, S'.slots, S'.temps, S'.nd, S'.own, fun _ _ => rfl⟩
end
def sTry (i : Nat) (al ks : List Nat) (b : M Fl) (s : Nat → List D → M Fl) : M Fl := fun env => match b env with
  | .ok fl e => .ok fl e
  | .ex q fs e => if al.contains q && decide (i < e.length) then (if ks.contains q then (match s q fs (e.set i .un) with
    | .ok fl e2 => .ok fl (e2.set i .un)
    | _ => .bad) else .ex q fs e) else .bad
  | .bad => .bad
section
variable {X : Cx} {c : Cn} {x n : Str} {CN : Value} {i : Nat} {body suite : List Stmt} {b₀ : Stmt} {np pos pos' : Pos} {b : M Fl} {s : Nat → List D → M Fl} {al ks : List Nat}
/-- the suite's reading -/
def tSu (K : PySem.W.Frag) (cl : ClT) (mk : List Bool) (i : Nat) (s : Nat → List D → M Fl) (a : Addr) (cls : Value) (d : Option Addr) : TS := fun D σ H => ∃ q fs C E, cls = .ref C ∧ SuF K cl E i q fs a C d ∧ tS K ⟨cl, orB mk i, E, fun _ _ _ _ => False⟩ (s q fs) D σ H
theorem s_tryAs (hs : X.stack = X.env :: X.outer) (hf : X.env.frame = some X.env.locals) (hN : X.N.Nodup) (hi : X.N[i]? = some n) (hln : X.env.kindOf n = some .local) (hc : Names X x CN) (tk : Takes X c.W) (hm : c.msk.getD i false = false)
    (hk : ∀ q ∈ al, ∀ C, c.cl.ad q = some C → PySem.W.exmOne X.K (.ref C) CN = some (ks.contains q))
    (hb : ∀ (W : WX) (pn : List (Addr × Obj)) (xe : Value → Shared → Prop), Takes (X.tr pn xe) W → PassesOwn (model X.prog X.w) X.A X.env xe → PSs (X.tr pn xe) body (tS X.K ⟨c.cl, c.msk, c.E, W⟩ b))
    (hsu : ∀ (q : Nat) (fs : List D) (a C : Addr) (E : Ent) (oe : Obj) (d : Option Addr) (pn : List (Addr × Obj)), SuF X.K c.cl E i q fs a C d → Zc (.ref C) d oe → (∃ vs, oe.data = .fields vs) →
      PSs (X.suite a ((a, oe) :: pn)) (b₀ :: suite) (tS X.K ⟨c.cl, orB c.msk i, E, fun _ _ _ _ => False⟩ (s q fs))) :
    PS X (.Try body [.ExceptHandler (some (.Name x np)) (some n) (b₀ :: suite) pos'] [] [] pos) (tS X.K c (sTry i al ks b s)) :=
  (ps_try_as (i := i) (ts := tSu X.K c.cl c.msk i s) (tb := fun W => tS X.K ⟨c.cl, c.msk, c.E, W⟩ b) hs hf hN hi hln hc tk hb (fun a oe cls d pn hz hfl => ⟨fun pins st σ H D I ⟨q, fs, C, E, ec, F, h⟩ => by
    subst ec
    exact (hsu q fs a C E oe d pn F hz hfl).run pins st σ H D I h⟩)).imp fun D σ H ⟨tv, env, td, a, ok⟩ => by
    refine ⟨tv, env, td, a, ?_⟩
    unfold sTry at ok
    cases q0 : b env with
    | bad => rw [q0] at ok; exact ok.elim
    | ok fl e => rw [q0] at ok; cases fl <;> exact ok
    | ex q fs e =>
      rw [q0] at ok
      simp only at ok
      cases hal : al.contains q && decide (i < e.length) with
      | false => rw [hal] at ok; exact ok.elim
      | true =>
        rw [hal] at ok
        obtain ⟨hal, hlt⟩ := Bool.and_eq_true_iff.mp hal
        intro σ1 H1 cls dd z
        obtain ⟨C, v, e1, rfl, e3, a1⟩ := z
        refine ⟨ks.contains q, hk q (by simpa using hal) C e1, fun hkt ad hna => ?_, fun hkf => ?_⟩
        · rw [hkt] at ok
          obtain ⟨R, gs, ft, S⟩ := a1
          obtain ⟨f, g, rfl, h1, h2⟩ := S.temps.inv
          have hf0 : f = [] := h1.fp_nil rfl
          subst hf0
          have S0 : SI X.K c.cl c.msk c.E R H1 gs g σ1 e tv td := S.perm S.slots h2 (.refl _) fun _ _ => rfl
          refine ⟨q, fs, C, ⟨R, H1, gs ++ g, σ1.set i (some (.ref ad))⟩, rfl, ⟨e1, ?_, ?_⟩, tv, e.set i .un, td, A.toSuite S0, ?_⟩
          · have hl : i < σ1.length := by
              have := S0.slots.length
              have := of_decide_eq_true hlt
              omega
            exact List.getElem?_set_self hl
          · simp only [Rep] at h1
            rcases e3 with ⟨rfl, rfl⟩ | ⟨a', rfl, rfl⟩
            · obtain ⟨_, ⟨_, h3, h4⟩ | ⟨_, _, z, _⟩⟩ := h1
              · exact .inl ⟨rfl, h4, h3⟩
              · cases z
            · obtain ⟨_, ⟨z, _⟩ | ⟨a2, fv, z, h3, h4, h5⟩⟩ := h1
              · cases z
              · cases z
                exact .inr ⟨a', fv, rfl, h3, h4, h5⟩
          · have conv : ∀ {σ' : Sl} {H' : Hp} {tv' : List V} {env' td' : List Pm.D}, A X.K ⟨c.cl, orB c.msk i, ⟨R, H1, gs ++ g, σ1.set i (some (.ref ad))⟩, fun _ _ _ _ => False⟩ σ' H' tv' env' td' → A X.K c (σ'.set i none) H' tv' (env'.set i .un) td' := fun {σ' H' tv' env' td'} a2 =>
              A.reslot (vs := [i]) (c := c) (fun j hj => by rw [List.mem_singleton.mp hj]; exact hm) (by simp) (fun j hj => List.getElem?_set_ne (fun z => hj (by rw [← z]; exact List.mem_singleton.mpr rfl))) (A.rebase (W := c.W) S0 hm a2)
            cases q2 : s q fs (e.set i .un) with
            | bad => rw [q2] at ok; exact ok.elim
            | ex y gs e2 => rw [q2] at ok; exact ok.elim
            | ok fl e2 =>
              rw [q2] at ok
              cases fl with
              | nx => exact fun σ' H' a2 => ok _ _ (conv a2)
              | bk => exact fun σ' H' a2 => ok _ _ (conv a2)
              | ct => exact fun σ' H' a2 => ok _ _ (conv a2)
              | rt d => exact fun σ' H' v a2 => ok _ _ _ (conv a2)
        · rw [hkf] at ok
          exact ok σ1 H1 _ _ ⟨C, v, e1, rfl, e3, a1⟩
end
/-! ### in the suite: e.f, isinstance(e, T) -/
section
variable {X : Cx} {c : Cn} {i q : Nat} {fs : List D} {a C : Addr} {d : Option Addr} {oe : Obj} {pn : List (Addr × Obj)} {cl : ClT} {mk : List Bool} {E : Ent} {n f : Str} {p pos : Pos} {W : WX}
theorem SuF.slot {K : PySem.W.Frag} {σ : Sl} {H : Hp} {tv : List V} {env td : List D} (F : SuF K cl E i q fs a C d) (s : A K ⟨cl, orB mk i, E, W⟩ σ H tv env td) : σ[i]? = some (some (.ref a)) := by
  obtain ⟨R, gs, ft, S⟩ := s
  exact (S.fix i orB_self).trans F.sl
def eXf (tab : List (Nat × Nat)) (q : Nat) (fs : List D) : M D := lft (match tab.lookup q with
  | some j => match fs[j]? with
    | some d => if (sv d).isSome then some d else none
    | none => none
  | none => none)
structure XfOk (K : PySem.W.Frag) (cl : ClT) (tab : List (Nat × Nat)) (f : Str) : Prop where
  ok : ∀ p ∈ tab, ∀ C, cl.ad p.1 = some C → XfC K C ∧ PySem.W.findIn K (.ref C) f = some none ∧ (cl.fl p.1)[p.2]? = some f ∧ (cl.fl p.1).Nodup
theorem lookup_fst {f : Str} {v : V} : ∀ {fv : List (Str × V)} {l : List Str} {j : Nat}, fv.map (·.1) = l → l.Nodup → l[j]? = some f → (fv.map (·.2))[j]? = some v → fv.lookup f = some v
  | [], _, j, h1, _, _, h => by simp at h
  | (g, w) :: fv, l, 0, h1, h2, h3, h => by
    subst h1
    simp at h3 h
    subst h3; subst h
    simp [List.lookup]
  | (g, w) :: fv, l, j + 1, h1, h2, h3, h => by
    subst h1
    simp only [List.map_cons, List.getElem?_cons_succ] at h3 h
    simp only [List.map_cons, List.nodup_cons] at h2
    have ne : (f == g) = false := by
      have : f ≠ g := fun z => h2.1 (by rw [← z]; exact List.mem_of_getElem? h3)
      simpa using this
    rw [List.lookup_cons, ne]
    exact lookup_fst rfl h2.2 h3 h
theorem m_xf {tab : List (Nat × Nat)} (T : XfOk X.K cl tab f) (F : SuF X.K cl E i q fs a C d) (hz : Zc (.ref C) d oe) (hf : ∃ vs, oe.data = .fields vs) (hN : X.N[i]? = some n) (hv : Vis X.env.scope n) (hd : (n == ("__debug__" : Str)) = false := by decide) (hcd : (n == ("__classdict__" : Str)) = false := by decide)
    (hb : attributeBase (.Name n p) f X.env (eval (.Name n p) X.env) = eval (.Name n p) X.env := by rfl) : PE (X.suite a ((a, oe) :: pn)) (.Attribute (.Name n p) f pos) (tM X.K ⟨cl, orB mk i, E, W⟩ (eXf tab q fs)) := by
  cases hq : tab.lookup q with
  | none => exact ⟨fun pins s σ H Q I ⟨tv, env, td, st, ok⟩ => by unfold eXf at ok; rw [hq] at ok; exact ok.elim⟩
  | some j =>
    obtain ⟨h1, h2, h3, h4⟩ := T.ok _ (lookup_mem hq) C F.ad
    refine (pe_xf (X := X) h1 h2 hz hf (pe_var (X := X.suite a ((a, oe) :: pn)) hN hv hd hcd) hb).imp fun σ H Q ⟨tv, env, td, st, ok⟩ => ?_
    unfold eXf at ok
    rw [hq] at ok
    obtain ⟨r, e, k⟩ := ok.lft
    simp only at e
    cases hj : fs[j]? with
    | none => rw [hj] at e; cases e
    | some x =>
      rw [hj] at e
      simp only at e
      cases hs : sv x with
      | none => rw [hs] at e; cases e
      | some v =>
        rw [hs] at e
        have : x = r := by simpa using e
        subst this
        refine ⟨.ref a, F.slot st, rfl, rfl, ?_⟩
        rcases F.fd with ⟨_, rfl, _⟩ | ⟨dd, fv, rfl, hR, hm, hr⟩
        · simp at hj
        · obtain ⟨g, w, hw, hx, _⟩ := hr.get hj
          obtain ⟨rfl, _⟩ := hx.sv hs
          have hH : H dd = some (.xd fv) := by
            obtain ⟨R, gs, ft, S⟩ := id st
            exact S.same _ _ (S.ev.s1 _ _ hR)
          exact ⟨dd, fv, w, rfl, hH, lookup_fst hm h4 h3 hw, k H w (st.push hs)⟩
/-- what the class must say, so that isinstance asks its instances rightly -/
structure EcC (K : PySem.W.Frag) (D : Addr) : Prop where
  hg : PySem.W.findIn K (.ref D) "__getattribute__" = some (some (.builtin "BaseException.__getattribute__"))
  hk : PySem.W.findIn K (.ref D) "__getattr__" = some none
  hs : PySem.W.subIn K (.ref D) (.type "BaseException") = some true
  hd : PySem.W.hasDictIn K D = true
  ha : PySem.W.findIn K (.ref D) "__class__" = some (some (.builtin "object.__class__"))
  hn : PySem.W.specialIn K (.builtin "object.__class__") "__get__" = some (some (.builtin "getset_descriptor.__get__"))
  ht : PySem.W.takesIn K (.builtin "object.__class__") = some true
  hm : PySem.W.mroIn K D (.type "object") = some true
def eXi (tb : List (Nat × Bool)) (q : Nat) : M D := bnd (lft (tb.lookup q)) fun b => ret (.bl b)
structure XiOk (K : PySem.W.Frag) (cl : ClT) (P : Value → Bool → Prop) (tb : List (Nat × Bool)) : Prop where
  ok : ∀ p ∈ tb, ∀ C, cl.ad p.1 = some C → EcC K C ∧ P (.ref C) p.2
theorem EcC.kit {K : PySem.W.Frag} {x C : Addr} {ox : Obj} {od : Option Obj} (h : EcC K C) : PySem.W.KitX K (.ref x) (.ref C) (fun h => PySem.W.InstAt h x ox C od) :=
  PySem.W.kitx_exc (by obtain ⟨cd, hc, _⟩ := PySem.W.any_some h.hd; rw [hc]; rfl) h.hg h.hk h.hs h.ha h.hn h.ht h.hm
theorem inst_of {pins : List (Addr × Obj)} {σ : Sl} {H : Hp} {s : Shared} (I : Inv (X.suite a ((a, oe) :: pn)) pins σ H s) (F : SuF X.K cl E i q fs a C d) (hH : ∀ dd fv, d = some dd → E.R dd = some (.xd fv) → H dd = some (.xd fv)) (hz : Zc (.ref C) d oe) (hf : ∃ vs, oe.data = .fields vs) : ∃ od, PySem.W.InstAt s.heap a oe C od := by
  obtain ⟨ha, _⟩ := I.pin (a, oe) (List.mem_append_left _ List.mem_cons_self)
  obtain ⟨vs, hd⟩ := hf
  rcases F.fd with ⟨rfl, _, _⟩ | ⟨dd, fv, rfl, hR, _, _⟩
  · exact ⟨none, ha, hz.1, by unfold PySem.W.notCls; rw [hd] <;> rfl, by rw [hz.2]; trivial⟩
  · have hx : ObjOk X.prog X.w H s.heap dd (.xd fv) := I.hok dd _ (hH dd fv rfl hR)
    obtain ⟨mA, hns, hr⟩ := hx
    obtain ⟨od, ho, hl⟩ := lookIn_ns hns
    exact ⟨some od, ha, hz.1, by unfold PySem.W.notCls; rw [hd] <;> rfl, by rw [hz.2]; exact ho⟩
def rXi (K : PySem.W.Frag) (E : Ent) (C a : Addr) : List V → Hp → VK → Prop := fun xs H Q => ∃ (c : V) (cv : Value) (b : Bool), xs = [.ref a, c] ∧ (∀ u, RelV c u → u = cv) ∧ PySem.W.kitOne K (.ref C) cv = some b ∧ (∀ dd fv, E.R dd = some (.xd fv) → H dd = some (.xd fv)) ∧ Q (.bl b) H
theorem call_xi (T : EcC X.K C) (F : SuF X.K cl E i q fs a C d) (hz : Zc (.ref C) d oe) (hf : ∃ vs, oe.data = .fields vs) : CallR (X.suite a ((a, oe) :: pn)) (.builtin "isinstance") (rXi X.K E C a) := by
  intro pins s σ H xs us Q I r h
  obtain ⟨c, cv, b, rfl, hcv, e, hH, q⟩ := h
  cases r with
  | cons rx rr =>
    cases rr with
    | cons rt rr =>
      cases rr
      cases rx
      have ec := hcv _ rt
      subst ec
      obtain ⟨od, J⟩ := inst_of I F (fun dd fv _ z => hH dd fv z) hz hf
      exact PySem.W.kia_one T.kit I.kIn J e (fun z => nomatch z) fun tk => ⟨.bl b, H, I.kept (t' := tk) fun _ _ z => z, rfl, q⟩
theorem SuF.shared {K : PySem.W.Frag} {σ : Sl} {H : Hp} {tv : List V} {env td : List D} (s : A K ⟨cl, mk, E, W⟩ σ H tv env td) : ∀ dd fv, E.R dd = some (.xd fv) → H dd = some (.xd fv) := fun dd fv z => by
  obtain ⟨R, gs, ft, S⟩ := s
  exact S.same _ _ (S.ev.s1 _ _ z)
def rXiT (K : PySem.W.Frag) (E : Ent) (C a : Addr) : List V → Hp → VK → Prop := fun xs H Q => ∃ (tp : Addr) (cs : List V) (us : List Value) (b : Bool), xs = [.ref a, .ref tp] ∧ H tp = some (.tup cs) ∧ Paired ClsV cs us ∧ PySem.W.kitAny K (.ref C) us = some b ∧ (∀ dd fv, E.R dd = some (.xd fv) → H dd = some (.xd fv)) ∧ Q (.bl b) H
theorem call_xiT (T : EcC X.K C) (F : SuF X.K cl E i q fs a C d) (hz : Zc (.ref C) d oe) (hf : ∃ vs, oe.data = .fields vs) : CallR (X.suite a ((a, oe) :: pn)) (.builtin "isinstance") (rXiT X.K E C a) := by
  intro pins s σ H xs us Q I r h
  obtain ⟨tp, cs, ws, b, rfl, hT, k, e, hH, q⟩ := h
  obtain ⟨u1, u2, rfl, r1, r2⟩ := vals2 r
  cases (show u1 = Value.ref a from r1)
  cases (show u2 = Value.ref tp from r2)
  obtain ⟨od, J⟩ := inst_of I F (fun dd fv _ z => hH dd fv z) hz hf
  obtain ⟨_, its, rv, o, h1, h2, n, h3⟩ := (show ObjOk X.prog X.w H s.heap tp (.tup cs) from I.hok tp _ hT)
  have e3 := ClsV.all k rv
  subst e3
  obtain ⟨oc, od', dt, sl⟩ := o
  simp only at h2 h3
  subst h2 h3
  exact PySem.W.kia_tup T.kit I.kIn J h1 e (fun z => nomatch z) fun tk => ⟨.bl b, H, I.tok tk, rfl, q⟩
theorem m_xi {tb : List (Nat × Bool)} {v : V} {u : Value} {t : Expr} (T : XiOk X.K cl (fun t b => PySem.W.kitOne X.K t u = some b) tb) (F : SuF X.K cl E i q fs a C d) (hz : Zc (.ref C) d oe) (hf : ∃ vs, oe.data = .fields vs) (hN : X.N[i]? = some n) (hv : Vis X.env.scope n)
    (hg : Gl X "isinstance") (hm : X.mg "isinstance" = none) (ht : PE (X.suite a ((a, oe) :: pn)) t (tC v)) (hcv : ClsV v u) {p2 : Pos} (hd : (n == ("__debug__" : Str)) = false := by decide) (hcd : (n == ("__classdict__" : Str)) = false := by decide)
    (hs : starEach [.Name n p, t] X.env = (false, eval (.Name n p) X.env) :: starEach [t] X.env := by rfl) (hs2 : starEach [t] X.env = (false, eval t X.env) :: starEach [] X.env := by rfl) (hpl : (backTo pos (starEach [t] X.env)).any (·.1) = false := by rfl) :
    PE (X.suite a ((a, oe) :: pn)) (.Call (.Name "isinstance" p2) [.Name n p, t] [] pos) (tM X.K ⟨cl, orB mk i, E, W⟩ (eXi tb q)) := by
  cases hq : tb.lookup q with
  | none => exact ⟨fun pins s σ H Q I ⟨tv, env, td, st, ok⟩ => by unfold eXi at ok; rw [hq] at ok; exact ok.elim⟩
  | some b =>
    obtain ⟨h1, h2⟩ := T.ok _ (lookup_mem hq) C F.ad
    refine (pe_callB (call_xi (X := X) h1 F hz hf) hg hm rfl (pa_cons (pe_var (X := X.suite a ((a, oe) :: pn)) hN hv hd hcd) (pa_cons ht pa_nil hs2) hs) (by decide) (by decide) hs hpl).imp fun σ H Q ⟨tv, env, td, st, ok⟩ => ?_
    unfold eXi at ok
    rw [hq] at ok
    exact ⟨.ref a, F.slot st, v, u, b, rfl, fun _ r => hcv.eq r, h2, SuF.shared st, ok H _ (st.push rfl)⟩
theorem m_xiT {tb : List (Nat × Bool)} {vs : List V} {us : List Value} {ts : List Expr} {k : Nat} {p2 p3 : Pos} (T : XiOk X.K cl (fun t b => PySem.W.kitAny X.K t us = some b) tb) (F : SuF X.K cl E i q fs a C d) (hz : Zc (.ref C) d oe) (hf : ∃ vs, oe.data = .fields vs) (hN : X.N[i]? = some n) (hv : Vis X.env.scope n)
    (hg : Gl X "isinstance") (hm : X.mg "isinstance" = none) (ht : PCl (X.suite a ((a, oe) :: pn)) ts vs us) (hl : vs.length ≤ 16777216) (hd : (n == ("__debug__" : Str)) = false := by decide) (hcd : (n == ("__classdict__" : Str)) = false := by decide)
    (hs : starEach [.Name n p, .Tuple ts k p3] X.env = (false, eval (.Name n p) X.env) :: starEach [.Tuple ts k p3] X.env := by rfl) (hs2 : starEach [.Tuple ts k p3] X.env = (false, eval (.Tuple ts k p3) X.env) :: starEach [] X.env := by rfl) (hpl : (backTo pos (starEach [.Tuple ts k p3] X.env)).any (·.1) = false := by rfl) :
    PE (X.suite a ((a, oe) :: pn)) (.Call (.Name "isinstance" p2) [.Name n p, .Tuple ts k p3] [] pos) (tM X.K ⟨cl, orB mk i, E, W⟩ (eXi tb q)) := by
  cases hq : tb.lookup q with
  | none => exact ⟨fun pins s σ H Q I ⟨tv, env, td, st, ok⟩ => by unfold eXi at ok; rw [hq] at ok; exact ok.elim⟩
  | some b =>
    obtain ⟨h1, h2⟩ := T.ok _ (lookup_mem hq) C F.ad
    refine (pe_callB (call_xiT (X := X) h1 F hz hf) hg hm rfl (pa_cons (pe_var (X := X.suite a ((a, oe) :: pn)) hN hv hd hcd) (pa_cons (pe_tup ht.pa) pa_nil hs2) hs) (by decide) (by decide) hs hpl).imp fun σ H Q ⟨tv, env, td, st, ok⟩ => ?_
    unfold eXi at ok
    rw [hq] at ok
    refine ⟨.ref a, F.slot st, line_of hl, fun tp htp => ?_⟩
    have a2 := st.junk (o := .tup vs) htp
    exact ⟨tp, vs, us, b, rfl, upd_same, ht.cls, h2, SuF.shared a2, ok _ _ (a2.push rfl)⟩
end
end Pm

namespace Pm
open PySem PySem.Spec PyProof.Rows L2
/-! ### enumerate, zip of lists -/
def enumF : Nat → List D → List D
  | _, [] => []
  | k, d :: ds => mkT [.int (k : Nat), d] :: enumF (k + 1) ds
theorem enumF_len : ∀ {k : Nat} {l : List D}, (enumF k l).length = l.length
  | _, [] => rfl
  | k, d :: l => by simp only [enumF, List.length_cons, enumF_len]
theorem enumF_get : ∀ {l : List D} {k i : Nat} {d : D}, (enumF k l)[i]? = some d → ∃ x, l[i]? = some x ∧ d = mkT [.int ((k + i : Nat) : Int), x]
  | [], _, _, _, h => by simp [enumF] at h
  | x :: l, k, 0, d, h => by
    have : mkT [.int (k : Nat), x] = d := by simpa [enumF] using h
    exact ⟨x, rfl, by rw [← this]; simp⟩
  | x :: l, k, i + 1, d, h => by
    obtain ⟨y, h1, h2⟩ := enumF_get (l := l) (k := k + 1) (i := i) (d := d) (by simpa [enumF] using h)
    exact ⟨y, by simpa using h1, by rw [h2, show k + 1 + i = k + (i + 1) by omega]⟩
def zipF : List D → List D → List D
  | d :: ds, e :: es => mkT [d, e] :: zipF ds es
  | _, _ => []
theorem zipF_len : ∀ {l r : List D}, (zipF l r).length = min l.length r.length
  | [], _ => by simp [zipF]
  | _ :: _, [] => by simp [zipF]
  | d :: l, e :: r => by simp only [zipF, List.length_cons, zipF_len]; omega
theorem zipF_get : ∀ {l r : List D} {i : Nat} {d : D}, (zipF l r)[i]? = some d → ∃ x y, l[i]? = some x ∧ r[i]? = some y ∧ d = mkT [x, y]
  | [], _, _, _, h => by simp [zipF] at h
  | _ :: _, [], _, _, h => by simp [zipF] at h
  | x :: l, y :: r, 0, d, h => by
    have : mkT [x, y] = d := by simpa [zipF] using h
    exact ⟨x, y, rfl, rfl, this.symm⟩
  | x :: l, y :: r, i + 1, d, h => by
    obtain ⟨a, b, h1, h2, h3⟩ := zipF_get (l := l) (r := r) (i := i) (d := d) (by simpa [zipF] using h)
    exact ⟨a, b, by simpa using h1, by simpa using h2, h3⟩
section
variable {c : Cn}
theorem isIt_enum {K : PySem.W.Frag} {tv : List V} {td : List D} {pp : Addr} {l : List D} : IsIt K c (Ite K pp) (.ref pp :: tv) (.lst l :: td) (enumF 0 l) := by
  refine ⟨fun i d σ H env us es hl e a => ?_, fun σ H env a => ?_⟩
  · obtain ⟨y, e1, rfl⟩ := enumF_get e
    obtain ⟨vs, h1, h2, h3⟩ := a.itemLU hl
    have hi : i < vs.length := by rw [h2]; exact (List.getElem?_eq_some_iff.mp e1).1
    refine ⟨⟨vs, vs[i], h1, List.getElem?_eq_getElem hi⟩, fun x H' yy => ?_⟩
    obtain ⟨T, x, rfl, hT, rfl, hx⟩ := yy
    have a1 := h3 i y x e1 (hx vs h1)
    have a2 := a1.push (d := .int ((0 + i : Nat) : Int)) rfl
    have a3 := A.newT (vs := [.int ((0 + i : Nat) : Int), x]) (ds := [.int ((0 + i : Nat) : Int), y]) a2 rfl hT
    rw [show ((i : Nat) : Int) = ((0 + i : Nat) : Int) by simp]
    exact a3
  · obtain ⟨vs, h1, h2, h3⟩ := a.itemL
    exact ⟨vs, h1, by rw [enumF_len]; omega⟩
end
section
variable {X : Cx} {c : Cn} {e : Expr} {es : List Expr} {f : M D} {pos p tpos : Pos} {tk : List (Option Nat)} {elts : List Expr} {kk : Nat}
def iEn (f : M D) : M (List D) := bnd (eFz f) fun d => lft (match d with
  | .lst l => some (enumF 0 l)
  | _ => none)
theorem i_enum (hg : Gl X "enumerate") (hm : X.mg "enumerate" = none) (he : PE X e (tM X.K c (eFz f))) (hs : starEach [e] X.env = (false, eval e X.env) :: starEach [] X.env := by rfl) (hs2 : starEach [e] X.env = [(false, eval e X.env)] := by rfl) :
    PI X (.Tuple elts kk tpos) (.Call (.Name "enumerate" p) [e] [] pos) (tI X.K c (iEn f)) := (pi_enum hg hm (pa_cons he pa_nil hs) hs2).imp fun σ H R ⟨tv, env, td, a, ok⟩ => ⟨tv, env, td, a, ok.bnd.mono fun d e1 ok1 H1 v a1 => by
    obtain ⟨items, eq, q⟩ := ok1.lft
    cases d <;> try (cases eq; done)
    rename_i l
    cases eq
    obtain ⟨pp, rfl⟩ := a1.refL
    obtain ⟨vs, h1, _⟩ := a1.itemL
    exact ⟨pp, vs, rfl, h1, q _ _ [_] [_] rfl isIt_enum a1⟩⟩
end
theorem takes_suite {X : Cx} {a : Addr} {pn : List (Addr × Obj)} : Takes (X.suite a pn) (fun _ _ _ _ => False) := fun u s' ⟨_, _, _, _, _, _, _, _, _, _, _, _, _, _, _, _, w⟩ => w.elim
/-! ### the plain side -/
section
variable {α : Type} {env : List D} {X : XP}
theorem wp_sRaise {q n : Nat} {m : M (List D)} {S : Fl → List D → Prop} (h : wp m env (fun ds e => ds.length = n ∧ ds.all fmtD = true ∧ X q ds.reverse e) X) : wp (sRaise q n m) env S X :=
  wp_bnd (wp_mono h fun ds e h1 => ⟨by
    unfold wpD
    simp only [h1.1, h1.2.1, if_true]
    exact h1.2.2⟩)
theorem wp_sTry {i : Nat} {al ks : List Nat} {b : M Fl} {s : Nat → List D → M Fl} {S : Fl → List D → Prop}
    (h : wp b env S fun q fs e => al.contains q = true ∧ i < e.length ∧ br (ks.contains q) (wp (s q fs) (e.set i .un) (fun fl e2 => S fl (e2.set i .un)) fun _ _ _ => False) (X q fs e)) : wp (sTry i al ks b s) env S X := by
  replace h := h.run
  refine ⟨?_⟩
  unfold wpD sTry at *
  cases q : b env with
  | bad => rw [q] at h; exact h
  | ok fl e => rw [q] at h; exact h
  | ex y fs e =>
    rw [q] at h
    obtain ⟨h1, h2, h3⟩ := h
    simp only [h1, h2, decide_true, Bool.and_self, if_true]
    cases hk : ks.contains y with
    | false => rw [hk] at h3; exact h3.run
    | true =>
      rw [hk] at h3
      have h4 := (show wp (s y fs) (e.set i .un) (fun fl e2 => S fl (e2.set i .un)) (fun _ _ _ => False) from h3.run).run
      unfold wpD at h4
      simp only [if_true]
      cases q2 : s y fs (e.set i .un) with
      | bad => rw [q2] at h4; exact h4
      | ex y fs e => rw [q2] at h4; exact h4.elim
      | ok fl e2 => rw [q2] at h4; exact h4
theorem wp_eXf {tab : List (Nat × Nat)} {q : Nat} {fs : List D} {P : D → List D → Prop} {d : D} (e : (match tab.lookup q with
  | some j => match fs[j]? with
    | some d => if (sv d).isSome then some d else none
    | none => none
  | none => none) = some d) (h : P d env) : wp (eXf tab q fs) env P X := wp_lft (opt_of e h)
theorem wp_eXi {tb : List (Nat × Bool)} {q : Nat} {P : D → List D → Prop} {b : Bool} (e : tb.lookup q = some b) (h : P (.bl b) env) : wp (eXi tb q) env P X := wp_bnd (wp_lft (opt_of e ⟨h⟩))
theorem wp_iEn {f : M D} {P : List D → List D → Prop} (h : wp f env (fun d e => frz d fun d' => ∃ l, d' = .lst l ∧ P (enumF 0 l) e) X) : wp (iEn f) env P X := wp_bnd (wp_eFz (wp_mono h fun d e h => by
  obtain ⟨l, e1, h2⟩ := h
  show frz d _
  unfold frz
  rw [e1]
  exact wp_lft (opt_some h2)))
theorem def_fF {b : M Fl} {nl : Nat} {mk : List Bool} {ds env : List D} {P : D → List D → Prop} (e0 : ds ++ List.replicate nl .un = env) (h : wp b env (endP mk P) fun c fs e => mk.length ≤ e.length ∧ X c fs (pick mk e)) : fF (defM b nl mk ds) P X := by
  subst e0
  replace h := h.run
  unfold wpD at h
  refine ⟨?_⟩
  unfold fFD defM
  cases q : b (ds ++ List.replicate nl .un) with
  | bad => rw [q] at h; exact h.elim
  | ex c fs e =>
    rw [q] at h
    obtain ⟨h1, h2⟩ := h
    simp only [if_pos h1]
    exact h2
  | ok fl e =>
    rw [q] at h
    cases fl with
    | nx => obtain ⟨h1, h2⟩ := h; simp only [outM, if_pos h1]; exact h2
    | rt r' => obtain ⟨h1, h2⟩ := h; simp only [outM, if_pos h1]; exact h2
    | bk => exact h.elim
    | ct => exact h.elim
theorem def_raises {b : M Fl} {nl : Nat} {mk : List Bool} {ds env fs0 ps : List D} {c0 : Nat} (e0 : ds ++ List.replicate nl .un = env) (h : wp b env (fun _ _ => False) fun c fs e => c = c0 ∧ fs = fs0 ∧ Nat.ble mk.length e.length = true ∧ pick mk e = ps) : defM b nl mk ds = .ex c0 fs0 ps := by
  subst e0
  replace h := h.run
  unfold wpD at h
  unfold defM
  cases q : b (ds ++ List.replicate nl .un) with
  | bad => rw [q] at h; exact h.elim
  | ex c fs e =>
    rw [q] at h
    obtain ⟨rfl, rfl, h1, rfl⟩ := h
    simp only [if_pos (Nat.le_of_ble_eq_true h1)]
  | ok fl e => rw [q] at h; exact h.elim
end
end Pm
namespace Pm
open PySem PySem.Spec PyProof.Rows L2
theorem exm_mk {K : PySem.W.Frag} {C : Addr} {cls : Value} {b : Bool} (h : (PySem.W.clsIn K C).isSome = true ∧ PySem.W.typeIn K (.ref C) = some (.type "type") ∧ PySem.W.subIn K (.ref C) (.type "BaseException") = some true) (h4 : PySem.W.subIn K cls (.ref C) = some b) : PySem.W.exmOne K cls (.ref C) = some b := by
  obtain ⟨h1, h2, h3⟩ := h
  have e1 : (PySem.W.subIn K (.ref C) (.type "BaseException") == some true) = true := by rw [h3] <;> rfl
  have e2 : ((PySem.W.clsIn K C).isSome && PySem.W.typeIn K (.ref C) == some (.type "type")) = true := by rw [h1, h2] <;> rfl
  show (if (PySem.W.subIn K (.ref C) (.type "BaseException") == some true) = true then (if ((PySem.W.clsIn K C).isSome && PySem.W.typeIn K (.ref C) == some (.type "type")) = true then PySem.W.subIn K cls (.ref C) else none) else none) = some b
  rw [if_pos e1, if_pos e2]
  exact h4
theorem kit_own {K : PySem.W.Frag} {C D : Addr} {b : Bool} (h : (PySem.W.clsIn K D).isSome = true ∧ PySem.W.typeIn K (.ref D) = some (.type "type") ∧ PySem.W.subIn K (.ref D) (.type "BaseException") = some true) (h4 : PySem.W.subIn K (.ref C) (.ref D) = some b) (hb : C = D → b = true) : PySem.W.kitOne K (.ref C) (.ref D) = some b := by
  obtain ⟨h1, h2, h3⟩ := h
  unfold PySem.W.kitOne
  split
  · rename_i z
    have e : C = D := by simpa using z
    rw [hb e]
  · show (if ((PySem.W.clsIn K D).isSome && PySem.W.typeIn K (.ref D) == some (.type "type")) = true then PySem.W.subIn K (.ref C) (.ref D) else none) = some b
    rw [if_pos (by rw [h1, h2] <;> rfl)]
    exact h4
theorem kit_bi {K : PySem.W.Frag} {C : Addr} {T : String} {b : Bool} (h : PySem.W.kitMeta T = true) (h4 : PySem.W.subIn K (.ref C) (.type T) = some b) : PySem.W.kitOne K (.ref C) (.type T) = some b := by
  unfold PySem.W.kitOne
  rw [if_neg (by intro z; cases (beq_iff_eq.mp z))]
  show (if PySem.W.kitMeta T = true then PySem.W.subIn K (.ref C) (.type T) else none) = some b
  rw [if_pos h]
  exact h4
end Pm

namespace Pm
open PySem PySem.Spec PyProof.Rows L2
section
variable {α : Type} {env l : List D} {X : XP} {i n : Nat} {k : D → Prop}
theorem wp_ret' {a : α} {P : α → List D → Prop} (h : P a env) : wp (Pm.ret a) env P X := ⟨h⟩
theorem br_eqc {b c : Bool} {A B : Prop} (e : b = c) (h : br c A B) : br b A B := by rw [e]; exact h
theorem o_addSS {a b : Str} (c : a.length + b.length ≤ 16777216) (h : k (.str (a ++ b))) : opt (addD (.str a) (.str b)) k := opt_of (if_pos c) h
theorem o_addLL {a b : List D} (c : a.length + b.length ≤ 16777216) (h : k (.olst (a ++ b))) : opt (addD (.lst a) (.lst b)) k := opt_of (if_pos c) h
theorem o_addOO {a b : List D} (c : a.length + b.length ≤ 16777216) (h : k (.olst (a ++ b))) : opt (addD (.olst a) (.olst b)) k := opt_of (if_pos c) h
theorem o_addLO {a b : List D} (c : a.length + b.length ≤ 16777216) (h : k (.olst (a ++ b))) : opt (addD (.lst a) (.olst b)) k := opt_of (if_pos c) h
theorem o_addOL {a b : List D} (c : a.length + b.length ≤ 16777216) (h : k (.olst (a ++ b))) : opt (addD (.olst a) (.lst b)) k := opt_of (if_pos c) h
theorem o_intB {b : Bool} (h : k (.int (if b then 1 else 0))) : opt (intA [.bl b]) k := ⟨h⟩
theorem o_eqX {d e : D} {b : Bool} (c : eqD d e = some (.bl b)) (h : k (.bl b)) : opt (eqD d e) k := opt_of c h
theorem o_neX {d e : D} {b : Bool} (c : neD d e = some (.bl b)) (h : k (.bl b)) : opt (neD d e) k := opt_of c h
theorem setK_at {d : D} {i : Int} {l : List D} (h0 : 0 ≤ i) (h1 : i < l.length) : setK d (.int i) l = some (l.set i.toNat d) := by
  show (match L2.ixN l.length i with
    | some j => some (l.set j d)
    | none => none) = _
  unfold L2.ixN
  rw [if_pos h0, if_pos h1]
theorem ix_lit {l : List D} {x : Int} (h0 : 0 ≤ x) (h1 : x < l.length) : ∃ d ∈ l, ixD (.olst l) (.int x) = some d ∧ ixD (.lst l) (.int x) = some d := by
  have e := ixD_L (l := l) h0 h1
  rw [List.getElem?_eq_getElem (by omega)] at e
  exact ⟨_, List.getElem_mem _, e, e⟩
theorem nu_ok {d : D} {Q : Prop} (c : isU d = false) (h : Q) : nu d Q := by unfold nu; rw [c]; exact h
theorem fz_of {d e : D} {k : D → Prop} (c : freeze d = e) (h : k e) : frz d k := by unfold frz; rw [c]; exact h
theorem fzL_ints (ns : List Int) : freezeL (ns.map D.int) = ns.map D.int := by
  induction ns with
  | nil => rfl
  | cons n ns ih => rw [List.map_cons, freezeL, ih, freeze]; all_goals simp
theorem fz_intsO {ns : List Int} {k : D → Prop} (h : k (.lst (ns.map D.int))) : frz (.olst (ns.map D.int)) k := by unfold frz; rw [freeze, fzL_ints]; exact h
theorem fz_id {d : D} {k : D → Prop} (c : freeze d = d) (h : k d) : frz d k := by unfold frz; rw [c]; exact h
end
end Pm

namespace Pm
open PySem PySem.Spec PyProof.Rows L2
/-! ### a slot's own list walked without sharing it -/
def nonO (l : List D) : Bool := l.all fun d => !isO d
section
variable {K : PySem.W.Frag} {c : Cn}
theorem RepL.nonO {cl : ClT} {R H : Hp} {fp : List Addr} {vs : List V} {l : List D} (h : RepL K cl R H fp vs l) (n : Pm.nonO l = true) : fp = [] ∧ ∀ (i : Nat) (d : D) (v : V), l[i]? = some d → vs[i]? = some v → Rep K cl R H [] v d := by
  have := h.fp_nil n
  subst this
  exact ⟨rfl, fun i d v e1 e2 => RepL.get2 h e1 e2⟩
theorem A.itemO {σ : Sl} {H : Hp} {us tv : List V} {env es td : List D} {pp : Addr} {l : List D} (n : Pm.nonO l = true) (hl : us.length = es.length) (a : A K c σ H (us ++ .ref pp :: tv) env (es ++ .olst l :: td)) : ∃ vs, SqL K H pp vs ∧ vs.length = l.length ∧ ∀ (i : Nat) (d : D) (v : V), l[i]? = some d → vs[i]? = some v → A K c σ H (v :: (us ++ .ref pp :: tv)) env (d :: (es ++ .olst l :: td)) := by
  obtain ⟨R, fs, ft, S⟩ := a
  obtain ⟨f0, g0, rfl, h0, h00⟩ := S.temps.split hl
  obtain ⟨f, g, rfl, h1, h2⟩ := h00.inv
  have h1' := h1
  simp only [Rep] at h1
  obtain ⟨p', vs, f', e, h3, rfl, h4⟩ := h1
  cases e
  obtain ⟨rfl, h5⟩ := h4.nonO n
  refine ⟨vs, SqL.of h3, h4.length, fun i d v e1 e2 => ⟨R, fs, [] ++ (f0 ++ ([pp] ++ g)), S.perm S.slots (RepL.cons (f := []) (h5 i d v e1 e2) S.temps) (.refl _) fun _ _ => rfl⟩⟩
theorem isIt_olst {tv : List V} {td : List D} {pp : Addr} {l : List D} (n : Pm.nonO l = true) : IsIt K c (Itl K pp) (.ref pp :: tv) (.olst l :: td) l := by
  refine ⟨fun i d σ H env us es hl e a => ?_, fun σ H env a => ?_⟩
  · obtain ⟨vs, h1, h2, h3⟩ := a.itemO n hl
    have hi : i < vs.length := by rw [h2]; exact (List.getElem?_eq_some_iff.mp e).1
    refine ⟨⟨vs, vs[i], h1, List.getElem?_eq_getElem hi⟩, fun x H' y => ?_⟩
    obtain ⟨rfl, y⟩ := y
    exact h3 i d x e (y vs h1)
  · obtain ⟨vs, h1, h2, h3⟩ := A.itemO (us := []) (es := []) n rfl a
    exact ⟨vs, h1, by omega⟩
/-- the slot j's own list under way -/
def tIT (K : PySem.W.Frag) (c : Cn) (j : Nat) : TI := fun σ H R => ∃ tv env td l, A K c σ H tv env td ∧ env[j]? = some (.olst l) ∧ Pm.nonO l = true ∧ ∀ pp, σ[j]? = some (some (.ref pp)) → A K c σ H (.ref pp :: tv) (env.set j .un) (.olst l :: td) → R (Itl K pp) H
end
section
variable {X : Cx} {c : Cn} {elt tg iter : Expr} {ifs : List Expr} {scope : Scope} {own : List (Str × Nat)} {pos spos py : Pos} {t : D → M Unit} {q : M Bool} {f : M D} {sl : List Nat} {y : Str} {i : Nat}
theorem i_slot (j : Nat) {x : Str} (hN : X.N[j]? = some x := by rfl) (hv : Vis X.env.scope x := by first | exact Or.inl rfl | exact Or.inr (Or.inl rfl) | exact Or.inr (Or.inr rfl)) (hd : (x == ("__debug__" : Str)) = false := by decide)
    (hcd : (x == ("__classdict__" : Str)) = false := by decide) : PI X tg (.Name x pos) (tIT X.K c j) := (pi_list (pe_var hN hv hd hcd)).imp fun σ H R ⟨tv, env, td, l, a, e, n, k⟩ => by
  obtain ⟨v, e1, a1⟩ := a.takeS e rfl
  obtain ⟨R0, f, h, _⟩ := a1.temp
  obtain ⟨pp, rfl⟩ := h.isR rfl
  obtain ⟨vs, h1, _⟩ := A.itemO (us := []) (es := []) n rfl a1
  exact ⟨_, e1, pp, rfl, ⟨vs, h1⟩, k pp e1 a1⟩
def eLcT (j : Nat) (vs : List Nat) (t : D → M Unit) (q : M Bool) (f : M D) : M D := fun env => match env[j]? with
  | some (.olst l) => if nonO l then bnd (compD vs t q f l []) (fun r env => .ok (.olst r) ((wipeE vs.reverse (wipeE vs env)).set j (.olst l))) (env.set j .un) else eLc vs (iV (eV j)) t q f env
  | _ => eLc vs (iV (eV j)) t q f env
theorem lcT_run (own : List Nat) (j : Nat) (hsl : ∀ i ∈ sl, i ∈ own) (hm : ∀ i ∈ own, c.msk.getD i false = false) {σ : Sl} {H : Hp} {Q : VK} (h : tM X.K c (eLcT j own t q f) σ H Q) :
    tLc (fun σ H R => tI X.K c (iV (eV j)) σ H R ∨ tIT X.K c j σ H R) (tG X.K (cB c) sl t) (tT X.K (cB c) q) (tM X.K (cB c) f) own σ H Q := by
  obtain ⟨tv, env, td, a, ok⟩ := h
  unfold eLcT at ok
  split at ok
  · rename_i l el
    split at ok
    · rename_i hn
      refine .inr ⟨tv, env, td, l, a, el, hn, fun pp epp a1 D hD => ?_⟩
      obtain ⟨lr, er, eq⟩ := compD_bad ok.bnd
      have ok2 := ok.bnd
      rw [eq] at ok2
      have hJ : IsIt X.K (cB c) (Itl X.K pp) (.ref pp :: tv) (.olst l :: td) l := isIt_olst hn
      have a0 : A X.K c σ (upd H D (.lst [])) (.ref D :: .ref pp :: tv) (env.set j .un) (.olst [] :: .olst l :: td) := A.newL (vs := []) (ds := []) a1 rfl hD
      refine ⟨fun i m H => m = l.length - i ∧ i ≤ l.length ∧ ∃ env acc, acc.length ≤ 16777216 ∧ A X.K (cB c) (L2.wipe σ own) H (.ref D :: (.ref pp :: tv)) (wipeE own env) (.olst acc :: (.olst l :: td)) ∧ compD own t q f (l.drop i) acc env = .ok lr er, ⟨_, rfl, Nat.zero_le _, env.set j .un, [], by simp, A.wipe own hm a0, by simpa using eq⟩, ?_⟩
      rintro i m H2 ⟨rfl, hi, env2, acc, hz, a2, eq2⟩
      by_cases hlt : i < l.length
      · refine .inr ?_
        have hd : l.drop i = l[i] :: l.drop (i + 1) := List.drop_eq_getElem_cons hlt
        rw [hd] at eq2
        obtain ⟨hgo, hy⟩ := hJ.1 i l[i] (L2.wipe σ own) H2 (wipeE own env2) [.ref D] [.olst acc] rfl (List.getElem?_eq_getElem hlt) a2
        refine ⟨hgo, fun H' => ∃ env acc, acc.length ≤ 16777216 ∧ A X.K (cB c) (L2.wipe σ own) H' (.ref D :: (.ref pp :: tv)) (wipeE own env) (.olst acc :: (.olst l :: td)) ∧ compD own t q f (l.drop (i + 1)) acc env = .ok lr er, fun H' ⟨e3, acc3, h3⟩ => ⟨_, by omega, rfl, hlt, e3, acc3, h3⟩, fun x H' y => ?_⟩
        have a3 := hy x H' y
        refine ⟨.ref D :: (.ref pp :: tv), wipeE own env2, .olst acc :: (.olst l :: td), l[i], a3, ?_⟩
        unfold compD at eq2
        cases qt : t l[i] (wipeE own env2) with
        | bad => simp only [bnd, qt] at eq2; cases eq2
        | ex _ _ _ => simp only [bnd, qt] at eq2; cases eq2
        | ok u e3 =>
          simp only [bnd, qt] at eq2
          intro σ' H3 hsm a4
          have hw : L2.wipe σ' own = L2.wipe σ own := wipe_eq (by rw [hsm.1, wipe_length]) fun j hj => by rw [hsm.2 j (fun z => hj (hsl j z)), wipe_off hj]
          refine ⟨hw, .ref D :: (.ref pp :: tv), e3, .olst acc :: (.olst l :: td), a4, ?_⟩
          cases qq : q e3 with
          | bad => simp only [qq] at eq2; cases eq2
          | ex _ _ _ => simp only [qq] at eq2; cases eq2
          | ok b e4 =>
            simp only [qq] at eq2
            intro H4 a5
            cases b with
            | false =>
              simp only [Bool.false_eq_true, if_false, ret] at eq2
              rw [if_neg Bool.false_ne_true]
              by_cases hz2 : acc.length ≤ 16777216
              · rw [if_pos hz2] at eq2
                exact ⟨e4, acc, hz2, hw ▸ A.wipe own hm a5, eq2⟩
              · exact absurd hz hz2
            | true =>
              simp only [if_true] at eq2
              rw [if_pos rfl]
              refine ⟨.ref D :: (.ref pp :: tv), e4, .olst acc :: (.olst l :: td), a5, ?_⟩
              cases qf : f e4 with
              | bad => simp only [bnd, qf] at eq2; cases eq2
              | ex _ _ _ => simp only [bnd, qf] at eq2; cases eq2
              | ok y0 e5 =>
                simp only [bnd, qf, ret] at eq2
                by_cases hz2 : (acc ++ [y0]).length ≤ 16777216
                · rw [if_pos hz2] at eq2
                  intro H5 w a6
                  obtain ⟨us, h1, h2, a7⟩ := A.addT (vs := []) a6
                  refine ⟨us, h1, ?_, e5, acc ++ [y0], hz2, hw ▸ A.wipe own hm a7, eq2⟩
                  rw [h2, sizeLine_eq]
                  simp at hz2
                  omega
                · rw [if_neg hz2] at eq2; cases eq2
      · have hi' : i = l.length := by omega
        subst hi'
        refine .inl ?_
        rw [List.drop_length] at eq2
        unfold compD at eq2
        cases eq2
        refine ⟨hJ.2 (L2.wipe σ own) H2 _ a2.pop, ok2 H2 (.ref D) ?_⟩
        have a3 := A.reslot (c := c) hm (σ' := σ) (by rw [wipe_length]) (fun j hj => (wipe_off hj).symm) a2
        exact A.put (A.rot (vs := [.ref D]) (ds := [.olst lr]) a3 rfl) epp
    · exact Or.inl (lc_run own hsl hm ⟨tv, env, td, a, ok⟩)
  · exact Or.inl (lc_run own hsl hm ⟨tv, env, td, a, ok⟩)
theorem m_lcT (j : Nat) {x : Str} {p : Pos} (hNx : X.N[j]? = some x) (hvx : Vis X.env.scope x) (hc : X.calm = true) (hN : X.N.Nodup) (ok : blkC X.N X.env.scope scope own = true) (hsl : ∀ i ∈ sl, i ∈ own.map (·.2)) (hm : ∀ i ∈ own.map (·.2), c.msk.getD i false = false)
    (hg : ∀ (s : Shared) (H : Hp) (C : Addr) (cl : List (Str × Addr)) (fp : List Addr), PG (X.blk s H scope (compEnvC scope cl C X.env) fp) tg (tG X.K (cB c) sl t)) (ht : ∀ (s : Shared) (H : Hp) (C : Addr) (cl : List (Str × Addr)) (fp : List Addr), PTs (X.blk s H scope (compEnvC scope cl C X.env) fp) ifs (tT X.K (cB c) q))
    (he : ∀ (s : Shared) (H : Hp) (C : Addr) (cl : List (Str × Addr)) (fp : List Addr), PE (X.blk s H scope (compEnvC scope cl C X.env) fp) elt (tM X.K (cB c) f)) (hs : ∀ z, foldedSetIterable (.Name x p) X.env z = pure z := by intro _; rfl) (hd : (x == ("__debug__" : Str)) = false := by decide) (hcd : (x == ("__classdict__" : Str)) = false := by decide) :
    PE X (.ListComp elt [⟨tg, .Name x p, ifs, 0⟩] scope pos) (tM X.K c (eLcT j (own.map (·.2)) t q f)) := (pe_lc hc hN ((i_val (m_fz (m_var j hNx hvx hd hcd))).or (i_slot j hNx hvx hd hcd)) (blkOk_by ok) hg ht he hs).imp fun _ _ _ h => lcT_run _ j hsl hm h
theorem s_setLcT (j : Nat) {x : Str} {p : Pos} (hNx : X.N[j]? = some x) (hvx : Vis X.env.scope x) (hc : X.calm = true) (hN : X.N.Nodup) (hy : X.N[i]? = some y) (hyl : X.env.scope.names.lookup y = some .local) (hmi : c.msk.getD i false = false)
    (hsw : swapsWith (.ListComp elt [⟨tg, .Name x p, ifs, 0⟩] scope pos) (some (.Name y py)) spos.line X.env = pure true) (ok : blkC X.N X.env.scope scope own = true) (hsl : ∀ i ∈ sl, i ∈ own.map (·.2)) (hm : ∀ i ∈ own.map (·.2), c.msk.getD i false = false)
    (hg : ∀ (s : Shared) (H : Hp) (C : Addr) (cl : List (Str × Addr)) (fp : List Addr), PG (X.blk s H scope (compEnvC scope cl C X.env) fp) tg (tG X.K (cB c) sl t)) (ht : ∀ (s : Shared) (H : Hp) (C : Addr) (cl : List (Str × Addr)) (fp : List Addr), PTs (X.blk s H scope (compEnvC scope cl C X.env) fp) ifs (tT X.K (cB c) q))
    (he : ∀ (s : Shared) (H : Hp) (C : Addr) (cl : List (Str × Addr)) (fp : List Addr), PE (X.blk s H scope (compEnvC scope cl C X.env) fp) elt (tM X.K (cB c) f)) (hs : ∀ z, foldedSetIterable (.Name x p) X.env z = pure z := by intro _; rfl) (hd : (x == ("__debug__" : Str)) = false := by decide) (hcd : (x == ("__classdict__" : Str)) = false := by decide) :
    PS X (.Assign [.Name y py] (.ListComp elt [⟨tg, .Name x p, ifs, 0⟩] scope pos) spos) (tS X.K c (sSet i (eLcT j (own.map (·.2)) t q f))) := (ps_setLc hc hN hy hyl hsw ((i_val (m_fz (m_var j hNx hvx hd hcd))).or (i_slot j hNx hvx hd hcd)) (blkOk_by ok) hg ht he hs).imp fun D σ H ⟨tv, env, td, a, ok⟩ => by
  have key : tM X.K c (eLcT j (own.map (·.2)) t q f) σ H (fun x H1 => gName i x σ H1 D.nx) := ⟨tv, env, td, a, (ok.bnd σ).mono fun d e1 ok1 H1 v a1 => ok1 _ H1 (a1.store hmi)⟩
  exact lcT_run _ j hsl hm key
end
/-! ### a promise that hands back less -/
def relF : List Bool → List Bool → List D → List D
  | true :: m, true :: m', p :: ps => p :: relF m m' ps
  | true :: m, false :: m', _ :: ps => relF m m' ps
  | false :: m, _ :: m', ps => relF m m' ps
  | _, _, _ => []
def dropF (mk mk' : List Bool) (F : List D → Out D) : List D → Out D := fun ds => match F ds with
  | .ok r ps => .ok r (relF mk mk' ps)
  | .ex c fs ps => .ex c fs (relF mk mk' ps)
  | .bad => .bad
def subB : List Bool → List Bool → Bool
  | [], [] => true
  | a :: m, b :: m' => (a || !b) && subB m m'
  | _, _ => false
theorem relF_nil : ∀ {m m' : List Bool}, relF m m' [] = []
  | true :: m, true :: m' => rfl
  | true :: m, false :: m' => rfl
  | false :: m, _ :: m' => relF_nil (m := m) (m' := m')
  | [], _ => by cases ‹List Bool› <;> rfl
  | true :: m, [] => rfl
  | false :: m, [] => rfl
theorem repL_rel {K : PySem.W.Frag} {cl : ClT} {R H : Hp} : ∀ {mk mk' : List Bool} {vs : List V} {ps : List D} {f : List Addr}, subB mk mk' = true → RepL K cl R H f (pick mk vs) ps → ∃ f1 g1, RepL K cl R H f1 (pick mk' vs) (relF mk mk' ps) ∧ (f1 ++ g1).Perm f
  | [], [], vs, ps, f, _, h => ⟨[], f, by simp only [pick, relF, RepL]; exact ⟨trivial, trivial⟩, .refl _⟩
  | [], _ :: _, _, _, _, h, _ => by cases h
  | _ :: _, [], _, _, _, h, _ => by cases h
  | a :: m, b :: m', [], ps, f, hs, h => by
    cases a <;> cases b <;> simp only [pick] at h ⊢
    all_goals
      cases ps with
      | nil => exact ⟨[], f, by simp [relF, relF_nil, RepL.nil_iff], .refl _⟩
      | cons p ps => have := h.length; simp at this
  | true :: m, b :: m', x :: vs, [], f, hs, h => by have := h.length; simp [pick] at this
  | true :: m, b :: m', x :: vs, p :: ps, f, hs, h => by
    simp only [pick] at h
    obtain ⟨f0, g0, rfl, h1, h2⟩ := h.inv
    obtain ⟨f1, g1, h3, p3⟩ := repL_rel (mk := m) (mk' := m') (by simpa [subB] using hs) h2
    cases b with
    | true =>
      refine ⟨f0 ++ f1, g1, by simp only [pick, relF]; exact RepL.cons h1 h3, ?_⟩
      rw [List.append_assoc]
      exact List.Perm.append_left _ p3
    | false =>
      refine ⟨f1, f0 ++ g1, by simp only [pick, relF]; exact h3, ?_⟩
      exact (perm3 f1 f0 g1).trans (List.Perm.append_left _ p3)
  | false :: m, true :: m', x :: vs, ps, f, hs, h => by simp [subB] at hs
  | false :: m, false :: m', x :: vs, ps, f, hs, h => by
    simp only [pick] at h
    obtain ⟨f1, g1, h3, p3⟩ := repL_rel (mk := m) (mk' := m') (by simpa [subB] using hs) h
    exact ⟨f1, g1, by simp only [pick, relF]; exact h3, p3⟩
theorem cE_drop {K : PySem.W.Frag} {cl : ClT} {R H H1 : Hp} {fp : List Addr} {mk mk' : List Bool} {vs : List V} {v : V} {r : D} {ps : List D} (hs : subB mk mk' = true) (b : A K (cE cl R H fp) [] H1 (v :: pick mk vs) [] (r :: ps)) : A K (cE cl R H fp) [] H1 (v :: pick mk' vs) [] (r :: relF mk mk' ps) := by
  obtain ⟨R1, fs, ft, S⟩ := b
  obtain ⟨f0, g0, rfl, h1, h2⟩ := S.temps.inv
  obtain ⟨f1, g1, h3, p3⟩ := repL_rel hs h2
  refine ⟨R1, fs, f0 ++ f1, S.sub S.slots (RepL.cons h1 h3) ⟨g1, ?_⟩ fun _ _ => rfl⟩
  simp only [List.append_assoc]
  exact List.Perm.append_left _ (List.Perm.append_left _ p3)
theorem fn_drop {P : Program} {w : World} {K : PySem.W.Frag} {mg : Str → Option Value} {base : Heap} {CX : CXT} {k n : Nat} {f : Addr} {fd : FuncData} {ps : List Str} {cl : ClT} {mk : List Bool} {F : List D → Out D} (h : FnOk P w K mg base CX k f fd ps (spM K cl mk n F)) (mk' : List Bool) (hs : subB mk mk' = true) :
    FnOk P w K mg base CX k f fd ps (spM K cl mk' n (dropF mk mk' F)) := h.imp fun vs H Q E ⟨R, fp, ds, h1, h2, h3, h4, h5, h6⟩ => by
  refine ⟨R, fp, ds, h1, h2, h3, h4, h5, ?_⟩
  unfold dropF at h6
  cases q : F ds with
  | bad => rw [q] at h6; exact h6
  | ok r qs => rw [q] at h6; exact fun H1 v b => h6 H1 v (cE_drop hs b)
  | ex x gs qs => rw [q] at h6; exact fun H1 C v dd e1 e2 b => h6 H1 C v dd e1 e2 (cE_drop hs b)
section
variable {env l : List D} {X : XP} {P : D → List D → Prop} {vs : List Nat} {t : D → M Unit} {q : M Bool} {f : M D} {j : Nat} {d r : D} {ps : List D} {mk mk' : List Bool} {F : List D → Out D} {k : D → List D → Prop} {ds : List D}
theorem fF_drop (e : F ds = .ok r ps) (h : k r (relF mk mk' ps)) : fF (dropF mk mk' F ds) k X := by
  unfold dropF
  rw [e]
  exact ⟨h⟩
theorem wp_eLcO (e : env[j]? = some (.olst l)) (n : nonO l = true) (h : wp (compD vs t q f l []) (env.set j .un) (fun r e' => P (.olst r) ((wipeE vs.reverse (wipeE vs e')).set j (.olst l))) X) : wp (eLcT j vs t q f) env P X := by
  refine ⟨?_⟩
  have h2 : wp (bnd (compD vs t q f l []) (fun r env => .ok (.olst r) ((wipeE vs.reverse (wipeE vs env)).set j (.olst l)))) (env.set j .un) P X := wp_bnd (wp_mono h fun r e' h => ⟨h⟩)
  have h3 := h2.run
  unfold wpD eLcT at *
  rw [e]
  simp only [n, if_true]
  exact h3
theorem wp_eLcL (e : env[j]? = some (.lst l)) (h : wp (eLc vs (iV (eV j)) t q f) env P X) : wp (eLcT j vs t q f) env P X := by
  refine ⟨?_⟩
  have h3 := h.run
  unfold wpD eLcT at *
  rw [e]
  exact h3
theorem wp_eLcU (e : env[j]? = some (.tup l)) (h : wp (eLc vs (iV (eV j)) t q f) env P X) : wp (eLcT j vs t q f) env P X := by
  refine ⟨?_⟩
  have h3 := h.run
  unfold wpD eLcT at *
  rw [e]
  exact h3
end
end Pm

namespace Pm
open PySem PySem.Spec PyProof.Rows L2
/-! ### f(e, .., k = v, ..) -/
def selD (zs : List D) : List (Nat ⊕ D) → Option (List D)
  | [] => some []
  | .inl j :: s => match zs[j]?, selD zs s with
    | some d, some r => some (d :: r)
    | _, _ => none
  | .inr d :: s => match selD zs s with
    | some r => some (d :: r)
    | none => none
def selV (zs : List V) : List (Nat ⊕ D) → List V
  | [] => []
  | .inl j :: s => zs.getD j .non :: selV zs s
  | .inr d :: s => ((sv d).getD .non) :: selV zs s
def selS : List (Nat ⊕ D) → Bool
  | [] => true
  | .inl _ :: s => selS s
  | .inr d :: s => (sv d).isSome && selS s
theorem repL_sel {K : PySem.W.Frag} {cl : ClT} {R H : Hp} {zs : List V} {zd : List D} (h : RepL K cl R H [] zs zd) : ∀ (sel : List (Nat ⊕ D)) {rs : List D}, selS sel = true → selD zd sel = some rs → RepL K cl R H [] (selV zs sel) rs
  | [], rs, _, e => by cases e; exact RepL.nil_iff.mpr ⟨rfl, rfl⟩
  | .inl j :: s, rs, hs, e => by
    unfold selD at e
    cases e1 : zd[j]? with
    | none => simp only [e1] at e; cases e
    | some d =>
      cases e2 : selD zd s with
      | none => simp only [e1, e2] at e; cases e
      | some r =>
        simp only [e1, e2] at e
        cases e
        have hj : j < zs.length := by rw [h.length]; exact (List.getElem?_eq_some_iff.mp e1).1
        have e3 : zs[j]? = some (zs.getD j .non) := by rw [List.getD_eq_getElem?_getD, List.getElem?_eq_getElem hj]; rfl
        exact RepL.cons (f := []) (g := []) (RepL.get2 h e1 e3) (repL_sel h s hs e2)
  | .inr d :: s, rs, hs, e => by
    unfold selD at e
    simp only [selS, Bool.and_eq_true] at hs
    cases e2 : selD zd s with
    | none => simp only [e2] at e; cases e
    | some r =>
      simp only [e2] at e
      cases e
      cases e1 : sv d with
      | none => rw [e1] at hs; cases hs.1
      | some v => 
        have : selV zs (.inr d :: s) = v :: selV zs s := by simp [selV, e1]
        rw [this]
        exact RepL.cons (f := []) (g := []) (rep_sv e1) (repL_sel h s hs.2 e2)
/-- keywords' values are shared -/
def aConsF (f : M D) (g : M (List D)) : M (List D) := bnd f fun d => bnd g fun ds => ret (freeze d :: ds)
theorem isO_freeze (d : D) : isO (freeze d) = false := by cases d <;> rfl
def tKw (K : PySem.W.Frag) (c : Cn) (m : M (List D)) : TA := fun σ H Q => ∃ tv env td, A K c σ H tv env td ∧ Ok K c σ tv td (m env) fun ds e => ∀ H' vs, vs.length = ds.length → A K c σ H' (vs ++ tv) e (ds ++ td) → Q vs H'
def kcO (F : List D → Out D) (sel : List (Nat ⊕ D)) (ds zs : List D) : M D := fun env => match (if nonO zs then selD zs sel else none) with
  | some rs => match F (ds ++ rs) with
    | .ok r [] => .ok r env
    | .ex x fs [] => .ex x fs env
    | _ => .bad
  | none => .bad
def eCallK (F : List D → Out D) (sel : List (Nat ⊕ D)) (m1 m2 : M (List D)) : M D := bnd m1 fun ds => bnd m2 fun zs => kcO F sel ds zs
section
variable {X : Cx} {c : Cn} {e : Expr} {es : List Expr} {kws : List Keyword} {pos p kpos : Pos} {f : M D} {m m1 m2 : M (List D)} {tk : List (Option Nat)} {k n j : Nat} {fa : Addr} {fd : FuncData} {ps ks : List Str} {F : List D → Out D} {x : Str} {nm : Option Str} {sel : List (Nat ⊕ D)} {g : List Value → List Value → List Value}
theorem k_nil : PK X [] (tKw X.K c aNil) := ⟨fun pos pins s σ H Q I h => pk_nil.run pos pins s σ H Q I (by obtain ⟨tv, env, td, a, ok⟩ := h; exact ok H [] rfl a)⟩
theorem k_cons (ha : PE X e (tM X.K c f)) (hr : PK X kws (tKw X.K c m)) : PK X (⟨nm, e, kpos⟩ :: kws) (tKw X.K c (aConsF f m)) := ⟨fun pos pins s σ H Q I h => (pk_cons ha hr).run pos pins s σ H Q I (by
  obtain ⟨tv, env, td, a, ok⟩ := h
  refine ⟨tv, env, td, a, ok.bnd.mono fun d e1 ok1 H1 v a1 => ⟨v :: tv, e1, freeze d :: td, a1.fz, ?_⟩⟩
  have ok2 : Ok X.K c σ (v :: tv) (freeze d :: td) (bnd m (fun ds => ret (freeze d :: ds)) e1) (fun ds e => ∀ H' vs, vs.length = ds.length → A X.K c σ H' (vs ++ tv) e (ds ++ td) → Q vs H') := ok1.over1
  refine ok2.bnd.mono fun ds e2 ok3 H2 ws hl a2 => ?_
  exact ok3 H2 (v :: ws) (by simp [hl]) (A.rot a2 hl))⟩
theorem run_fnNS {pins : List (Addr × Obj)} {σ : Sl} {H : Hp} {s : Shared} {Q : VK} {us ws : List Value} {vs zs : List V} {sp : Sp} {E : Sl → XK} {CX : CXT} {gV : List V → List V → List V} (Fn : FnOk X.prog X.w X.K X.mg X.base CX k fa fd ps sp) (hr : Room k X.A) (hb : KBn X.K fd ps n ks g gV) (hx : PassesAt CX X σ (E σ))
    (I : Inv X pins σ H s) (r : Vals vs us) (rz : Vals zs ws) (l1 : vs.length = n) (l2 : zs.length = ks.length) (h : sp (gV vs zs) H Q (E σ)) : wpAny (model X.prog X.w) X.A (call (.ref fa) us (ks.zip ws)) (EP X pins σ Q) X.xe s := by
  have r2 := hb.rel r rz
  refine wpAny_call (codeAny_mono (Fn.run X.A X.stack s H ⟨us, ks.zip ws⟩ (g us ws) (gV vs zs) Q (E σ) hr I.env0 (hb.to s us ws I.kIn (r.length.symm.trans l1) (rz.length.symm.trans l2)) r2 h) fun r s' hq => ?_)
  cases r with
  | error e => exact hx pins H s e s' I hq
  | ok fl =>
    cases fl with
    | ret u => exact I.after hq
    | next => exact False.elim hq
    | brk => exact False.elim hq
    | cont => exact False.elim hq
def tCallNS (n m : Nat) (sp : Sp) (gV : List V → List V → List V) (E : Sl → XK) (t tk : TA) : TE := fun σ H Q => t σ H fun vs H1 => tk σ H1 fun zs H2 => vs.length = n ∧ zs.length = m ∧ sp (gV vs zs) H2 Q (E σ)
theorem pe_callNS {sp : Sp} {E : Sl → XK} {CX : CXT} {gV : List V → List V → List V} {t t2 : TA} (Fn : FnOk X.prog X.w X.K X.mg X.base CX k fa fd ps sp) (hr : Room k X.A) (hg : Gl X x) (hm : X.mg x = some (.ref fa)) (hk : PySem.W.keepIn X.K (.ref fa) = true) (hb : KBn X.K fd ps n ks g gV) (hx : ∀ σ, PassesAt CX X σ (E σ))
    (ha : PA X (e :: es) t) (hkw : PK X kws t2) (hall : (backToKw pos (keywordEach kws X.env)).all (·.1.isSome) = true := by rfl) (hks : (backToKw pos (keywordEach kws X.env)).filterMap (·.1) = ks := by rfl)
    (hdb : (x == ("__debug__" : Str)) = false := by decide) (he : starEach (e :: es) X.env = (false, eval e X.env) :: starEach es X.env := by rfl)
    (hpl : ((backTo pos (starEach (e :: es) X.env)).any (·.1) || (backToKw pos (keywordEach kws X.env)).any (·.1.isNone)) = false := by rfl) :
    PE X (.Call (.Name x p) (e :: es) kws pos) (tCallNS n ks.length sp gV E t t2) := by
  refine ⟨fun pins s σ H Q I h => ?_⟩
  refine wpAny_Call_Name_kw (ld_glob I hg hm ?_ hdb)
  refine PySem.W.callWith_KW (h₀ := X.base) I.ok.mod.kin hk hall (thn (ha.run pos pins s σ H _ I h) fun us s1 ⟨vs, H1, I1, r, q⟩ => ?_) hpl he
  refine thn (hkw.run pos pins s1 σ H1 _ I1 q) fun ws s2 ⟨zs, H2, I2, rz, l1, l2, q2⟩ => ⟨I2.kIn, ?_⟩
  rw [hks]
  exact run_fnNS Fn hr hb (hx σ) I2 r rz l1 l2 q2
def noMk : List Bool → Bool
  | [] => true
  | b :: m => !b && noMk m
theorem pick_no {α : Type} : ∀ {mk : List Bool} {l : List α}, noMk mk = true → pick mk l = []
  | [], _, _ => by simp [pick]
  | true :: _, _, h => by simp [noMk] at h
  | false :: m, [], _ => by simp [pick]
  | false :: m, x :: l, h => by simp only [pick]; exact pick_no (by simpa [noMk] using h)
theorem m_callK {mk : List Bool} {N : Nat} (Fn : FnOk X.prog X.w X.K X.mg X.base (L2.CX X.prog X.w) k fa fd ps (spM X.K c.cl mk N F)) (hmk : noMk mk = true) (hsel : selS sel = true) (hN : n + sel.length = N) (hr : Room k X.A) (tkW : Takes X c.W) (hg : Gl X x) (hm : X.mg x = some (.ref fa)) (hkp : PySem.W.keepIn X.K (.ref fa) = true)
    (hb : KBn X.K fd ps n ks g (fun vs zs => vs ++ selV zs sel)) (ha : PA X (e :: es) (tA X.K c tk m1)) (hlt : tk.length = n) (hkw : PK X kws (tKw X.K c m2)) (hall : (backToKw pos (keywordEach kws X.env)).all (·.1.isSome) = true := by rfl) (hks : (backToKw pos (keywordEach kws X.env)).filterMap (·.1) = ks := by rfl) (hkl : kws.length = ks.length := by rfl)
    (hdb : (x == ("__debug__" : Str)) = false := by decide) (he : starEach (e :: es) X.env = (false, eval e X.env) :: starEach es X.env := by rfl)
    (hpl : ((backTo pos (starEach (e :: es) X.env)).any (·.1) || (backToKw pos (keywordEach kws X.env)).any (·.1.isNone)) = false := by rfl) (hz : ∀ {env e : List D} {zs : List D}, m2 env = .ok zs e → zs.length = ks.length) :
    PE X (.Call (.Name x p) (e :: es) kws pos) (tM X.K c (eCallK F sel m1 m2)) := (pe_callNS Fn hr hg hm hkp hb (fun σ => passAt tkW σ) ha hkw hall hks hdb he hpl).imp fun σ H Q ⟨tv, env, td, a, ok⟩ => by
  refine ⟨tv, env, td, a, ok.bnd.mono fun ds e1 ok1 H1 vs hl hk a1 => ⟨vs ++ tv, e1, ds ++ td, a1, ?_⟩⟩
  have ok2 := (ok1.over (vs := vs) (ds := ds) hl).bnd
  cases q : m2 e1 with
  | bad => rw [q] at ok2; exact ok2.elim
  | ex y fs e2 => rw [q] at ok2; exact ok2
  | ok zs e2 =>
    rw [q] at ok2
    clear ok2
    have ok2 := ok1
    unfold bnd at ok2
    rw [q] at ok2
    have ok2 : Ok X.K c σ tv td (kcO F sel ds zs e2) _ := ok2
    unfold kcO at ok2
    intro H2 zv hzl a2
    have hz2 := hz q
    refine ⟨by rw [← hlt]; exact hk.1.symm, by omega, ?_⟩
    cases hn : nonO zs with
    | false => simp only [hn, Bool.false_eq_true, if_false] at ok2; exact ok2.elim
    | true =>
      simp only [hn, if_true] at ok2
      cases hs : selD zs sel with
      | none => simp only [hs] at ok2; exact ok2.elim
      | some rs =>
        simp only [hs] at ok2
        have a3 : A X.K c σ H2 ((vs ++ selV zv sel) ++ tv) e2 ((ds ++ rs) ++ td) := by
          obtain ⟨R, fs, ft, S⟩ := a2
          obtain ⟨f, g, rfl, h1, h2⟩ := S.temps.split hzl
          obtain ⟨rfl, _⟩ := h1.nonO hn
          obtain ⟨f2, g2, rfl, h3, h4⟩ := h2.split hl
          have h5 := repL_sel h1 sel hsel hs
          refine ⟨R, fs, (f2 ++ []) ++ g2, S.perm S.slots ((h3.append h5).append h4) (by simp) fun _ _ => rfl⟩
        have hlr : rs.length = sel.length := by
          have key : ∀ (sel : List (Nat ⊕ D)) {rs : List D}, selD zs sel = some rs → rs.length = sel.length := fun sel => by
            induction sel with
            | nil => intro rs e; cases e; rfl
            | cons a s ih =>
              intro rs e
              cases a with
              | inl j =>
                unfold selD at e
                cases e1 : zs[j]? with
                | none => simp only [e1] at e; cases e
                | some d =>
                  cases e2 : selD zs s with
                  | none => simp only [e1, e2] at e; cases e
                  | some r => simp only [e1, e2] at e; cases e; simp [ih e2]
              | inr d =>
                unfold selD at e
                cases e2 : selD zs s with
                | none => simp only [e2] at e; cases e
                | some r => simp only [e2] at e; cases e; simp [ih e2]
          exact key sel hs
        have hvl : (vs ++ selV zv sel).length = (ds ++ rs).length := by
          have h1 := a3.same_len
          have h2 := a.same_len
          simp only [List.length_append] at h1 ⊢
          omega
        refine sp_of (mk := mk) a3 hvl ?_ ?_
        · rw [hvl, List.length_append, hlr, ← hN, ← hlt]
          have := hk.1
          omega
        · cases qF : F (ds ++ rs) with
          | bad => simp only [qF] at ok2; exact ok2.elim
          | ok r qs =>
            simp only [qF] at ok2
            cases qs with
            | nil =>
              intro H3 v a4
              rw [pick_no hmk] at a4
              exact ok2 H3 v a4
            | cons _ _ => exact ok2.elim
          | ex y fs qs =>
            simp only [qF] at ok2
            cases qs with
            | nil =>
              intro H3 C v dd e1' e2' _ a4
              rw [pick_no hmk] at a4
              exact ok2 H3 (.ref C) dd ⟨C, v, e1', rfl, e2', by simpa using a4⟩
            | cons _ _ => exact ok2.elim
end
end Pm

namespace Pm
open PySem PySem.Spec PyProof.Rows L2
/-! ### classmethods: C.m(..), cls(..) -/
/-- the promise of a classmethod of the class at C -/
def spC (K : PySem.W.Frag) (cl : ClT) (C : Addr) (mk : List Bool) (n : Nat) (F : List D → Out D) : Sp := fun vs H Q E => vs.head? = some (.ref C) ∧ spM K cl mk n F vs H Q E
section
variable {X : Cx} {CX : CXT} {k n : Nat} {C p g fa : Addr} {mc : Value} {sp : Sp} {E : XK} {o e : Expr} {es : List Expr} {f mn x : Str} {pos apos : Pos} {ta : TE} {t : TA} {pl : Sem Bool} {fd : FuncData} {ps : List Str}
theorem run_fnRC {pins : List (Addr × Obj)} {σ : Sl} {H : Hp} {s : Shared} {Q : VK} {us : List Value} {vs : List V} {f : Addr} (F : FnR X.prog X.w X.K X.mg X.base CX k f sp) (hr : Room k X.A) (hx : PassesAt CX X σ E) (I : Inv X pins σ H s) (r : Vals vs us) (h : sp vs H Q E) :
    codeAny (model X.prog X.w) X.A (.call (.ref f) ⟨us, []⟩) (fun r s' => match r with | .ok (.ret v) => EP X pins σ Q v s' | .ok _ => False | .error e => X.xe e s') s := by
  refine codeAny_mono (F X.A X.stack s H us vs Q E hr I.env0 r h) fun r s' hq => ?_
  cases r with
  | error e => exact hx pins H s e s' I hq
  | ok fl =>
    cases fl with
    | ret u => exact I.after hq
    | next => exact False.elim hq
    | brk => exact False.elim hq
    | cont => exact False.elim hq
theorem run_cmS {pins : List (Addr × Obj)} {σ : Sl} {H : Hp} {s : Shared} {Q : VK} {us : List Value} {vs : List V} {q : Addr} (F : FnR X.prog X.w X.K X.mg X.base CX k g sp) (hr : Room k X.A) (hx : PassesAt CX X σ E) (I : Inv X ((q, PySem.W.methodObj (.ref g) (.ref C)) :: pins) σ H s)
    (r : Vals vs us) (h : sp (.ref C :: vs) H Q E) : wpAny (model X.prog X.w) X.A (call (.ref q) us) (EP X pins σ Q) X.xe s := by
  have z : wpAny (model X.prog X.w) X.A (call (.ref q) us) (EP X ((q, PySem.W.methodObj (.ref g) (.ref C)) :: pins) σ Q) X.xe s :=
    wpAny_call (PySem.W.method_call (ClX.pin_at I) (run_fnRC (us := .ref C :: us) (vs := .ref C :: vs) F hr hx I (.cons rfl r) h))
  exact thn z fun _ _ y => ClX.unpinE y
def tCMethS (C : Addr) (sp : Sp) (E : Sl → XK) (ta : TE) (t : TA) : TE := fun σ H Q => ta σ H fun x H1 => x = .ref C ∧ t σ H1 fun vs H2 => sp (.ref C :: vs) H2 Q (E σ)
theorem pe_cmethS {E : Sl → XK} (he : PE X o ta) (r : ClX.CRead X.K C mc) (c : ClX.CMet X.K C mc mn p g) (F : FnOk X.prog X.w X.K X.mg X.base CX k g fd ps sp) (hr : Room k X.A) (hb : Binds X.K fd ps []) (hx : ∀ σ, PassesAt CX X σ (E σ)) (ha : PA X (e :: es) t)
    (ht : eval (.Call (.Attribute o mn apos) (e :: es) [] pos) X.env = (do
      let ov ← eval o X.env
      standAt apos.atName
      let (f, first) ← holding [ov] (getMethod ov mn pl)
      callWith pos f first (backTo pos (starEach (e :: es) X.env)) (backToKw pos (keywordEach [] X.env))) := by rfl)
    (hst : starEach (e :: es) X.env = (false, eval e X.env) :: starEach es X.env := by rfl) (hpl : (backTo pos (starEach es X.env)).any (·.1) = false := by rfl) :
    PE X (.Call (.Attribute o mn apos) (e :: es) [] pos) (tCMethS C sp E ta t) := by
  refine ⟨fun pins s σ H Q I h => ?_⟩
  refine PySem.W.methodCall_KW (pl := pl) (thn (he.run pins s σ H _ I h) fun u s1 ⟨x, H1, I1, rx, ex, q⟩ => ?_) ht
  subst ex
  obtain rfl : u = Value.ref C := rx
  refine ClX.getmethcm_ok I1 r c fun s2 I2 => ?_
  refine ClX.callwith_cm I2 (ClX.base_none I1 (Nat.le_refl _)) c.fi (thn (ha.run pos _ s2 σ H1 _ I2 q) fun us s3 ⟨vs, H2, I3, rv, q2⟩ => ⟨⟨ClX.pin_at I3, I3.kIn⟩, ?_⟩) hst hpl
  exact run_cmS (F.raw hb .nil) hr (hx σ) I3 rv (by simpa using q2)
/-- cls(..), cls a slot that holds the class at C -/
theorem pe_makeLS {E : Sl → XK} {i : Nat} (Mm : Mk X.K C fa) (Fn : FnOk X.prog X.w X.K X.mg X.base CX k fa fd ps sp) (hr : Room (k + 1) X.A) (hN : X.N[i]? = some x) (hv : Vis X.env.scope x) (hb : Binds X.K fd ps []) (hx : ∀ σ, PassesAt CX X σ (E σ))
    (ha : PA X (e :: es) t) (hdb : (x == ("__debug__" : Str)) = false := by decide) (hcd : (x == ("__classdict__" : Str)) = false := by decide) (he : starEach (e :: es) X.env = (false, eval e X.env) :: starEach es X.env := by rfl) (hpl : (backTo pos (starEach es X.env)).any (·.1) = false := by rfl) {p : Pos} :
    PE X (.Call (.Name x p) (e :: es) [] pos) (fun σ H Q => σ[i]? = some (some (.ref C)) ∧ tMakeS C sp E t σ H Q) := by
  refine ⟨fun pins s σ H Q I h => ?_⟩
  obtain ⟨hs, h⟩ := h
  refine wpAny_Call_Name_kw (thn ((pe_var (pos := p) (i := i) hN hv hdb hcd).run pins s σ H (fun v H1 => v = .ref C ∧ H1 = H) I ⟨.ref C, hs, rfl, rfl⟩) fun u s1 ⟨v, H1, I1, r1, ev, eH⟩ => ?_)
  subst ev
  rw [eH] at I1
  cases r1
  refine PySem.W.callWith_K (h₀ := X.base) I.ok.mod.kin Mm.kp (thn (ha.run pos pins s1 σ H _ I1 h) fun us s2 ⟨vs, H2, I2, r, q⟩ => ⟨I2.kIn, ?_⟩) he hpl
  exact run_makeS Mm Fn hr hb (hx σ) I2 r q
end
section
variable {X : Cx} {c : Cn} {e : Expr} {es : List Expr} {pos apos p0 : Pos} {tk : List (Option Nat)} {m : M (List D)} {k n q : Nat} {C p g fa : Addr} {mc : Value} {fd : FuncData} {ps : List Str} {F : List D → Out D} {x mn : Str} {pl : Sem Bool}
/-- cls(..) in a classmethod -/
theorem m_mkC {i : Nat} (hE : c.E.σ[i]? = some (some (.ref C))) (hms : c.msk.getD i false = true) (hN : X.N[i]? = some x) (hv : Vis X.env.scope x) (hC : c.cl.ad q = some C) (hlk : tk.length + 1 = n) (Mm : Mk X.K C fa) (Fn : FnOk X.prog X.w X.K X.mg X.base (L2.CX X.prog X.w) k fa fd ps (spM X.K c.cl (true :: tk.map Option.isSome) n F)) (hr : Room (k + 1) X.A) (tkW : Takes X c.W) (hb : Binds X.K fd ps [])
    (ha : PA X (e :: es) (tA X.K c tk m)) (hdb : (x == ("__debug__" : Str)) = false := by decide) (hcd : (x == ("__classdict__" : Str)) = false := by decide) (he : starEach (e :: es) X.env = (false, eval e X.env) :: starEach es X.env := by rfl) (hpl : (backTo pos (starEach es X.env)).any (·.1) = false := by rfl) :
    PE X (.Call (.Name x p0) (e :: es) [] pos) (tM X.K c (eMk q F tk m)) := (pe_makeLS Mm Fn hr hN hv hb (fun σ => passAt tkW σ) ha hdb hcd he hpl).imp fun σ H Q h => by
  refine ⟨?_, run_mk hC hlk h⟩
  obtain ⟨tv, env, td, ⟨R, fs, ft, S⟩, ok⟩ := h
  rw [S.fix i hms]; exact hE
def eCMeth (F : List D → Out D) (tk : List (Option Nat)) (m : M (List D)) : M D := bnd m fun ds env => match F (.un :: ds) with
  | .ok r (_ :: ps) => .ok r (putB (ids tk) ps env)
  | .ex x fs (_ :: ps) => .ex x fs (putB (ids tk) ps env)
  | _ => .bad
theorem A.pushUn {K : PySem.W.Frag} {c : Cn} {σ : Sl} {H : Hp} {tv : List V} {env td : List D} {v : V} (a : A K c σ H tv env td) : A K c σ H (v :: tv) env (.un :: td) := by
  obtain ⟨R, fs, ft, S⟩ := a
  refine ⟨R, fs, [] ++ ft, S.perm S.slots (RepL.cons (f := []) (by simp [Rep]) S.temps) (by simp) fun _ _ => rfl⟩
theorem m_cmeth (hg : Gl X x) (hm : X.mg x = some (.ref C)) (r : ClX.CRead X.K C mc) (cm : ClX.CMet X.K C mc mn p g) (hlk : tk.length + 1 = n) (Fn : FnOk X.prog X.w X.K X.mg X.base (L2.CX X.prog X.w) k g fd ps (spC X.K c.cl C (true :: tk.map Option.isSome) n F)) (hr : Room k X.A) (tkW : Takes X c.W) (hb : Binds X.K fd ps [])
    (ha : PA X (e :: es) (tA X.K c tk m)) (hdb : (x == ("__debug__" : Str)) = false := by decide)
    (ht : eval (.Call (.Attribute (.Name x p0) mn apos) (e :: es) [] pos) X.env = (do
      let ov ← eval (.Name x p0) X.env
      standAt apos.atName
      let (f, first) ← holding [ov] (getMethod ov mn pl)
      callWith pos f first (backTo pos (starEach (e :: es) X.env)) (backToKw pos (keywordEach [] X.env))) := by rfl)
    (hst : starEach (e :: es) X.env = (false, eval e X.env) :: starEach es X.env := by rfl) (hpl : (backTo pos (starEach es X.env)).any (·.1) = false := by rfl) :
    PE X (.Call (.Attribute (.Name x p0) mn apos) (e :: es) [] pos) (tM X.K c (eCMeth F tk m)) := (pe_cmethS (pe_glob hg hm (v := .ref C) rfl hdb) r cm Fn hr hb (fun σ => passAt tkW σ) ha ht hst hpl).imp fun σ H Q h => by
  refine ⟨rfl, ?_⟩
  obtain ⟨tv, env, td, a, ok⟩ := h
  refine ⟨tv, env, td, a, ok.bnd.mono fun ds e1 ok1 H1 vs hl hk a1 => ⟨rfl, ?_⟩⟩
  obtain ⟨hp1, hp2⟩ := pick_tk hk
  have a2 : A X.K c σ H1 ((.ref C :: vs) ++ tv) e1 ((.un :: ds) ++ td) := A.pushUn a1
  refine sp_of (vs := .ref C :: vs) (ds := .un :: ds) a2 (by simp [hl]) (by have := hk.1; simp; omega) ?_
  cases hF : F (.un :: ds) with
  | bad => rw [hF] at ok1; exact ok1.elim
  | ex y fs ps =>
    rw [hF] at ok1
    intro H2 C' v dd e1 e2 hpl b
    cases ps with
    | nil => exact ok1.elim
    | cons s0 ps =>
      have hq : (pick (tk.map Option.isSome) vs).length = ps.length := by simpa [pick] using hpl
      have b1 : A X.K c σ H2 (v :: (.ref C :: (pick (tk.map Option.isSome) vs ++ tv))) _ (.xd y fs :: (s0 :: (ps ++ td))) := b
      have b2 := A.dropMid (vs := [.ref C]) (ds := [s0]) b1 rfl
      exact ok1 H2 (.ref C') dd ⟨C', v, e1, rfl, e2, A.putB hq hp1 hp2 b2⟩
  | ok r ps =>
    rw [hF] at ok1
    intro H2 v b
    cases ps with
    | nil => exact ok1.elim
    | cons s0 ps =>
      have hq : (pick (tk.map Option.isSome) vs).length = ps.length := by
        have h1 := b.same_len
        have h2 := a1.same_len
        simp [pick] at h1 h2
        omega
      have b1 : A X.K c σ H2 (v :: (.ref C :: (pick (tk.map Option.isSome) vs ++ tv))) _ (r :: (s0 :: (ps ++ td))) := b
      have b2 := A.dropMid (vs := [.ref C]) (ds := [s0]) b1 rfl
      exact ok1 H2 _ (A.putB hq hp1 hp2 b2)
end
section
variable {P : Program} {w : World} {K : PySem.W.Frag} {mg : Str → Option Value} {base : Heap}
/-- a classmethod's def -/
theorem fn_okC {x qual : Str} {st : Stmt} {f : Addr} {fd : FuncData} {N ps : List Str} {k n nl : Nat} {m : M Fl} {cl : ClT} {mk : List Bool} {C : Addr} (F : Fun K x qual st f fd) (S : FnScope N ps (defScope st)) (hn : ps.length = n) (hN : N.length = n + nl) (hmk : mk.length ≤ n)
    (hbody : ∀ (cdv : Value) (A : Around) (outer : List Env) (s : Shared) (H : Hp) (E : XK) (e : Ent), e.σ[0]? = some (some (.ref C)) → Room k (A.deeper (envOfC qual (defScope st) s.heap.objs.size f cdv)) →
      PSs (cxOf (L2.CX P w) P w K mg base N qual (defScope st) f cdv A outer s H E) (defBody st) (tS K ⟨cl, mk, e, fun cls d _ H => E cls d H⟩ m)) :
    FnOk P w K mg base (L2.CX P w) (k + 1) f fd ps (spC K cl C mk n (defM m nl mk)) := by
  refine F.okX S (fun vs H Q E h => ?_) (fun cdv A outer s H vs Q E hr h => ?_)
  · obtain ⟨_, R, fp, ds, h1, _, _, _, h2, _⟩ := h
    rw [h1.length, h2, hn]
  · obtain ⟨h0, R, fp, ds, h1, h2, h3, h4, h5, h6⟩ := h
    have hl : vs.length = n := by rw [h1.length, h5]
    have hk : N.length - vs.length = nl := by omega
    have he0 : (vs.map some ++ List.replicate nl none)[0]? = some (some (V.ref C)) := by
      cases vs with
      | nil => simp at h0
      | cons v vs => simp at h0; subst h0; rfl
    refine ⟨_, hbody cdv A outer s H E ⟨R, H, fp, vs.map some ++ List.replicate nl none⟩ he0 hr, ?_⟩
    refine ⟨[], ds ++ List.replicate nl .un, [], ⟨R, fp, [], Ev.refl h2, ?_, RepL.nil_iff.mpr ⟨rfl, rfl⟩, by simpa using h3, fun b hb => ?_, fun _ _ => ?_⟩, ?_⟩
    · unfold L2.start
      rw [hk]
      exact repS_start h1
    · have hb' : b ∈ fp := by simpa using hb
      exact ⟨(h4 b hb').1, (h4 b hb').2, .inl hb'⟩
    · unfold L2.start
      rw [hk]
    · unfold defM at h6
      cases q : m (ds ++ List.replicate nl .un) with
      | bad => rw [q] at h6; exact h6.elim
      | ex y fs env =>
        rw [q] at h6
        by_cases hm : mk.length ≤ env.length
        · simp only [hm, if_true] at h6
          intro σ' H' cls dd z
          obtain ⟨C, v, e1, rfl, e3, a⟩ := z
          exact h6 H' C v dd e1 e3 (a.leave (by omega) hm)
        · simp only [hm, if_false] at h6
      | ok fl env =>
        rw [q] at h6
        cases fl with
        | bk => exact h6.elim
        | ct => exact h6.elim
        | nx =>
          simp only [outM] at h6
          by_cases hm : mk.length ≤ env.length
          · simp only [hm, if_true] at h6
            exact fun σ' H' a => h6 H' _ ((a.push (d := .non) rfl).leave (by omega) hm)
          · simp only [hm, if_false] at h6
        | rt r =>
          simp only [outM] at h6
          by_cases hm : mk.length ≤ env.length
          · simp only [hm, if_true] at h6
            exact fun σ' H' v a => h6 H' v (a.leave (by omega) hm)
          · simp only [hm, if_false] at h6
theorem fnC_imp {C : Addr} {cl : ClT} {mk : List Bool} {n k : Nat} {F G : List D → Out D} {f : Addr} {fd : FuncData} {ps : List Str} {CX : CXT} (h : FnOk P w K mg base CX k f fd ps (spC K cl C mk n F)) (e : F = G) : FnOk P w K mg base CX k f fd ps (spC K cl C mk n G) := e ▸ h
end
end Pm

namespace Pm
open PySem PySem.Spec PyProof.Rows L2
/-! ### how keywords are bound -/
def pk2 {α : Type} (x : α) (ws mv : List α) (s : List (Nat ⊕ Nat)) : List α := s.map fun a => match a with
  | .inl j => ws.getD j x
  | .inr j => mv.getD j x
def valD (d : D) : V := (sv d).getD .non
def selOf (ds : List D) (s : List (Nat ⊕ Nat)) : List (Nat ⊕ D) := s.map fun a => match a with
  | .inl j => .inl j
  | .inr j => .inr (ds.getD j .un)
theorem selV_of (zs : List V) (ds : List D) : ∀ s : List (Nat ⊕ Nat), selV zs (selOf ds s) = pk2 .non zs (ds.map valD) s
  | [] => rfl
  | .inl j :: s => by
    have ih := selV_of zs ds s
    simp only [selOf, pk2, List.map_cons] at ih ⊢
    simp only [selV, ih]
  | .inr j :: s => by
    have ih := selV_of zs ds s
    simp only [selOf, pk2, List.map_cons] at ih ⊢
    simp only [selV, ih]
    congr 1
    rw [List.getD_eq_getElem?_getD, List.getD_eq_getElem?_getD, List.getElem?_map]
    cases ds[j]? <;> rfl
theorem vals_getD {zs : List V} {ws : List Value} (r : Vals zs ws) : ∀ j, L2.RelV (zs.getD j .non) (ws.getD j .none) := by
  induction r with
  | nil => intro j; simp; rfl
  | cons h r ih =>
    intro j
    cases j with
    | zero => simpa using h
    | succ j => simpa using ih j
theorem vals_pk {zs vz : List V} {ws mv : List Value} (r : Vals zs ws) (r2 : Vals vz mv) : ∀ s : List (Nat ⊕ Nat), Vals (pk2 .non zs vz s) (pk2 .none ws mv s)
  | [] => .nil
  | .inl j :: s => .cons (vals_getD r j) (vals_pk r r2 s)
  | .inr j :: s => .cons (vals_getD r2 j) (vals_pk r r2 s)
section
variable {K : PySem.W.Frag} {fd : FuncData} {ps ks : List Str} {n : Nat}
/-- all keyword-only parameters are given -/
theorem kb_all (s : List (Nat ⊕ Nat)) (h : ∀ us ws : List Value, us.length = n → ws.length = ks.length → bindArgs fd ⟨us, ks.zip ws⟩ = pure (ps.zip (us ++ pk2 .none ws [] s))) : ∃ g, KBn K fd ps n ks g (fun vs zs => vs ++ selV zs (selOf [] s)) :=
  ⟨fun us ws => us ++ pk2 .none ws [] s, fun _ us ws _ l1 l2 => .of_eq (h us ws l1 l2), fun r1 r2 => by rw [selV_of]; exact r1.append (vals_pk r2 .nil s)⟩
/-- some lack: their defaults fill in -/
theorem kb_def {Dk : Addr} (ms : List (Str × D)) (s : List (Nat ⊕ Nat)) (hD : ∀ q ∈ ms, ∃ u, PySem.W.nsIn K Dk q.1 = some (some u) ∧ L2.RelV (valD q.2) u)
    (h : ∀ us mv ws : List Value, us.length = n → mv.length = ms.length → ws.length = ks.length → KwChain Dk ((ms.map (·.1)).zip mv) (bindArgs fd ⟨us, ks.zip ws⟩) (ps.zip (us ++ pk2 .none ws mv s))) : ∃ g, KBn K fd ps n ks g (fun vs zs => vs ++ selV zs (selOf (ms.map (·.2)) s)) := by
  obtain ⟨mv, hl, rk, hks⟩ := kwd_vals (K := K) (D := Dk) (ms := ms.map fun p => (p.1, valD p.2)) (by
    intro q hq
    obtain ⟨p, hp, rfl⟩ := List.mem_map.mp hq
    exact hD p hp)
  have e1 : (ms.map fun p => (p.1, valD p.2)).map (·.1) = ms.map (·.1) := by rw [List.map_map]; rfl
  have e2 : (ms.map fun p => (p.1, valD p.2)).map (·.2) = (ms.map (·.2)).map valD := by rw [List.map_map, List.map_map]; rfl
  rw [e1] at hks
  rw [e2] at rk
  refine ⟨fun us ws => us ++ pk2 .none ws mv s, fun sh us ws X l1 l2 => L2.BindsTo.of_looks fun M => KwChain.looks X hks (h us mv ws l1 (by simpa using hl) l2), fun r1 r2 => ?_⟩
  rw [selV_of]
  exact r1.append (vals_pk r2 rk s)
end
/-! ### f(e, .., k = v, ..) for the generator -/
theorem kw_nil {env e zs : List D} (h : aNil env = .ok zs e) : zs.length = 0 := by cases h; rfl
theorem kw_cons {f : M D} {m : M (List D)} {n : Nat} (h : ∀ {env e zs : List D}, m env = .ok zs e → zs.length = n) {env e zs : List D} (z : aConsF f m env = .ok zs e) : zs.length = n + 1 := by
  unfold aConsF bnd at z
  cases q : f env with
  | bad => rw [q] at z; cases z
  | ex _ _ _ => rw [q] at z; cases z
  | ok d e1 =>
    rw [q] at z
    simp only [bnd] at z
    cases q2 : m e1 with
    | bad => rw [q2] at z; cases z
    | ex _ _ _ => rw [q2] at z; cases z
    | ok ds e2 =>
      rw [q2] at z
      cases z
      simp [h q2]
section
variable {X : Cx} {c : Cn} {e : Expr} {es : List Expr} {kws : List Keyword} {pos p : Pos} {m1 m2 : M (List D)} {tk : List (Option Nat)} {k n : Nat} {fa : Addr} {fd : FuncData} {ps ks : List Str} {F : List D → Out D} {x : Str} {sel : List (Nat ⊕ D)}
theorem m_callKE {mk : List Bool} {N : Nat} (Fn : FnOk X.prog X.w X.K X.mg X.base (L2.CX X.prog X.w) k fa fd ps (spM X.K c.cl mk N F)) (hmk : noMk mk = true) (hsel : selS sel = true) (hN : n + sel.length = N) (hr : Room k X.A) (tkW : Takes X c.W) (hg : Gl X x) (hm : X.mg x = some (.ref fa)) (hkp : PySem.W.keepIn X.K (.ref fa) = true)
    (hb : ∃ g, KBn X.K fd ps n ks g (fun vs zs => vs ++ selV zs sel)) (ha : PA X (e :: es) (tA X.K c tk m1)) (hlt : tk.length = n) (hkw : PK X kws (tKw X.K c m2)) (hz : ∀ {env e zs : List D}, m2 env = .ok zs e → zs.length = ks.length) (hall : (backToKw pos (keywordEach kws X.env)).all (·.1.isSome) = true := by rfl) (hks : (backToKw pos (keywordEach kws X.env)).filterMap (·.1) = ks := by rfl) (hkl : kws.length = ks.length := by rfl)
    (hdb : (x == ("__debug__" : Str)) = false := by decide) (he : starEach (e :: es) X.env = (false, eval e X.env) :: starEach es X.env := by rfl)
    (hpl : ((backTo pos (starEach (e :: es) X.env)).any (·.1) || (backToKw pos (keywordEach kws X.env)).any (·.1.isNone)) = false := by rfl) :
    PE X (.Call (.Name x p) (e :: es) kws pos) (tM X.K c (eCallK F sel m1 m2)) := by
  obtain ⟨g, hb⟩ := hb
  exact m_callK Fn hmk hsel hN hr tkW hg hm hkp hb ha hlt hkw hall hks hkl hdb he hpl hz
end
/-! ### is, of bools -/
def isBD (d e : D) : Option D := match d, e with
  | .bl a, .bl b => some (.bl (decide (a = b)))
  | _, _ => none
def isNotBD (d e : D) : Option D := match d, e with
  | .bl a, .bl b => some (.bl (!decide (a = b)))
  | _, _ => none
theorem mI_isB {K : PySem.W.Frag} : OpM K rIsB isBD := OpM.sv fun d1 d2 d e => by
  cases d1 <;> cases d2 <;> simp only [isBD] at e <;> cases e
  exact ⟨_, _, _, rfl, rfl, rfl, fun H Q q => ⟨_, _, rfl, rfl, q⟩⟩
theorem mI_notB {K : PySem.W.Frag} : OpM K rNotB isNotBD := OpM.sv fun d1 d2 d e => by
  cases d1 <;> cases d2 <;> simp only [isNotBD] at e <;> cases e
  exact ⟨_, _, _, rfl, rfl, rfl, fun H Q q => ⟨_, _, rfl, rfl, q⟩⟩
theorem o_isB {a b : Bool} {k : D → Prop} (h : k (.bl (decide (a = b)))) : opt (isBD (.bl a) (.bl b)) k := ⟨h⟩
theorem o_isNotB {a b : Bool} {k : D → Prop} (h : k (.bl (!decide (a = b)))) : opt (isNotBD (.bl a) (.bl b)) k := ⟨h⟩
/-! ### isinstance of an own class -/
theorem insC_mk {K : PySem.W.Frag} {C : Addr} (c : Cls K C) (ha : PySem.W.findIn K (.ref C) "__class__" = some (some (.builtin "object.__class__"))) (hn : PySem.W.specialIn K (.builtin "object.__class__") "__get__" = some (some (.builtin "getset_descriptor.__get__")))
    (ht : PySem.W.takesIn K (.builtin "object.__class__") = some true) (hm : PySem.W.mroIn K C (.type "object") = some true) : C8.InsC K C := ⟨c, ha, hn, ht, hm, by unfold PySem.W.kitOne; rw [if_pos (by simp)]⟩
/-- a pair of own classes -/
structure KitC (K : PySem.W.Frag) (C D : Addr) (b : Bool) : Prop where
  c : (PySem.W.clsIn K D).isSome = true
  t : PySem.W.typeIn K (.ref D) = some (.type "type")
  s : PySem.W.subIn K (.ref C) (.ref D) = some b
  e : C = D → b = true
theorem KitC.ok {K : PySem.W.Frag} {C D : Addr} {b : Bool} (h : KitC K C D b) : PySem.W.kitOne K (.ref C) (.ref D) = some b := by
  unfold PySem.W.kitOne
  split
  · rename_i z
    have e : C = D := by simpa using z
    rw [h.e e]
  · show (if ((PySem.W.clsIn K D).isSome && PySem.W.typeIn K (.ref D) == some (.type "type")) = true then PySem.W.subIn K (.ref C) (.ref D) else none) = some b
    rw [if_pos (by rw [h.c, h.t] <;> rfl)]
    exact h.s
/-- a built-in kind against an own class -/
theorem kitT {K : PySem.W.Frag} {D : Addr} {T : String} {b : Bool} (h1 : (PySem.W.clsIn K D).isSome = true) (h2 : PySem.W.typeIn K (.ref D) = some (.type "type")) (h3 : PySem.W.subIn K (.type T) (.ref D) = some b) : PySem.W.kitOne K (.type T) (.ref D) = some b := by
  unfold PySem.W.kitOne
  rw [if_neg (by intro z; cases (beq_iff_eq.mp z))]
  show (if ((PySem.W.clsIn K D).isSome && PySem.W.typeIn K (.ref D) == some (.type "type")) = true then PySem.W.subIn K (.type T) (.ref D) else none) = some b
  rw [if_pos (by rw [h1, h2] <;> rfl)]
  exact h3
theorem kit_same {K : PySem.W.Frag} {C : Addr} : PySem.W.kitOne K (.ref C) (.ref C) = some true := by unfold PySem.W.kitOne; rw [if_pos (by simp)]
/-! ### the plain side -/
def noP (ps : List D) (Q : Prop) : Prop := match ps with
  | [] => Q
  | _ :: _ => False
theorem noP_n {Q : Prop} (h : Q) : noP [] Q := h
def unP (ps : List D) (k : List D → Prop) : Prop := match ps with
  | _ :: ps => k ps
  | [] => False
theorem unP_s {x : D} {ps : List D} {k : List D → Prop} (h : k ps) : unP (x :: ps) k := h
theorem o_sel {zs : List D} {sel : List (Nat ⊕ D)} {rs : List D} {k : List D → Prop} (e : (if nonO zs then selD zs sel else none) = some rs) (h : k rs) : opt (if nonO zs then selD zs sel else none) k := by rw [e]; exact ⟨h⟩

section
variable {env : List D} {P : D → List D → Prop} {X : XP} {m m1 m2 : M (List D)} {f : M D}
theorem wp_aConsF {P : List D → List D → Prop} (h : wp f env (fun d e => frz d fun d' => wp m e (fun ds e2 => P (d' :: ds) e2) X) X) : wp (aConsF f m) env P X :=
  wp_bnd (wp_mono h fun d e h1 => wp_bnd (wp_mono h1 fun ds e2 h2 => ⟨h2⟩))
theorem wp_eCallK {F : List D → Out D} {sel : List (Nat ⊕ D)} (h : wp m1 env (fun ds e => wp m2 e (fun zs e2 => opt (if nonO zs then selD zs sel else none) fun rs => fF (F (ds ++ rs)) (fun r ps => noP ps (P r e2)) (fun c fs ps => noP ps (X c fs e2))) X) X) : wp (eCallK F sel m1 m2) env P X :=
  wp_bnd (wp_mono h fun ds e h1 => wp_bnd (wp_mono h1 fun zs e2 h2 => by
    refine ⟨?_⟩
    unfold wpD kcO
    cases q : (if nonO zs then selD zs sel else none) with
    | none => rw [q] at h2; exact h2.run.elim
    | some rs =>
      rw [q] at h2
      have h3 := h2.run
      simp only [optD, fF_iff] at h3
      unfold fFD at h3
      cases z : F (ds ++ rs) with
      | bad => simp only [z] at h3
      | ok r ps => simp only [z] at h3; cases ps with | nil => simp only [q, z]; exact h3 | cons _ _ => exact h3.elim
      | ex c fs ps => simp only [z] at h3; cases ps with | nil => simp only [q, z]; exact h3 | cons _ _ => exact h3.elim))
theorem wp_eCMeth {F : List D → Out D} {tk : List (Option Nat)} (h : wp m env (fun ds e => fF (F (.un :: ds)) (fun r ps => unP ps fun ps => pbc tk ps e fun e' => P r e') (fun c fs ps => unP ps fun ps => pbc tk ps e fun e' => X c fs e')) X) : wp (eCMeth F tk m) env P X :=
  wp_bnd (wp_mono h fun ds e h1 => by
    refine ⟨?_⟩
    unfold wpD
    simp only [fF_iff] at h1
    unfold fFD pbc at h1
    cases z : F (.un :: ds) with
    | bad => rw [z] at h1; exact h1
    | ok r ps => rw [z] at h1; cases ps with | nil => exact h1.elim | cons _ _ => exact h1
    | ex c fs ps => rw [z] at h1; cases ps with | nil => exact h1.elim | cons _ _ => exact h1)
end
end Pm
namespace Pm
open PySem PySem.Spec PyProof.Rows L2
theorem cread_mk {K : PySem.W.Frag} {C : Addr} (h : PySem.W.readsIn K C (.type "type") = true) : ClX.CRead K C (.type "type") := by
  refine ⟨h, ?_⟩
  unfold PySem.W.readsIn at h
  simp only [Bool.and_eq_true, beq_iff_eq] at h
  obtain ⟨⟨⟨⟨_, h2⟩, h3⟩, _⟩, _⟩ := h
  unfold PySem.W.specialIn
  rw [h2, Option.bind_some]
  exact h3
theorem cmet_mk {K : PySem.W.Frag} {C p g : Addr} {m : Str} {d : Option Addr} {vf : Array Value} {sl sl2 : Array (Option Value)} {oc : Value} {od : Option Addr} {fd : FuncData} (hl : K.lookup p = some ⟨.type "classmethod", d, .fields vf, sl⟩) (h0 : vf[0]? = some (.ref g)) (hf : K.lookup g = some ⟨oc, od, .func fd, sl2⟩)
    (hc : PySem.W.findCls K (.ref C) (.type "type") m = some (.get (.builtin "classmethod.__get__") (.ref p) .none (.ref C))) : ClX.CMet K C (.type "type") m p g := by
  refine ⟨hc, ?_, ?_⟩
  · unfold PySem.W.recIn
    rw [hl]
    obtain ⟨l⟩ := vf
    cases l with
    | nil => simp at h0
    | cons a l => 
      have : a = .ref g := by simpa using h0
      subst this
      exact ⟨l, rfl⟩
  · unfold PySem.W.fnIn
    rw [hf]
section
variable {X : Cx} {c : Cn} {C : Addr} {x f : Str} {p pos : Pos} {d : D} {mc : Value}
theorem m_cval (hg : Gl X x) (hm : X.mg x = some (.ref C)) (r : ClX.CRead X.K C mc) (k : ∃ u, ClX.CVal X.K C mc f (valD d) u) (hs : sv d = some (valD d)) (hdb : (x == ("__debug__" : Str)) = false := by decide) (hb : attributeBase (.Name x p) f X.env (eval (.Name x p) X.env) = eval (.Name x p) X.env := by rfl) : PE X (.Attribute (.Name x p) f pos) (tM X.K c (eC d)) := by
  obtain ⟨u, k⟩ := k
  refine (ClX.pe_cval (pe_glob hg hm (v := .ref C) rfl hdb) hb).imp fun σ H Q ⟨tv, env, td, a, ok⟩ => ?_
  exact ⟨C, mc, valD d, u, rfl, r, k, ok H _ (a.push hs)⟩
end
end Pm

namespace Pm
open PySem PySem.Spec PyProof.Rows L2
/-! ### while, by an invariant and a measure -/
def whS (I : List D → Prop) (μ : List D → Nat) (m : Nat) (S : Fl → List D → Prop) : Fl → List D → Prop
  | .nx, e => I e ∧ μ e < m
  | .ct, e => I e ∧ μ e < m
  | .bk, e => S .nx e
  | .rt r, e => S (.rt r) e
theorem wh_nx {I : List D → Prop} {μ : List D → Nat} {m : Nat} {S : Fl → List D → Prop} {e : List D} (h : I e ∧ μ e < m) : whS I μ m S .nx e := h
theorem wh_ct {I : List D → Prop} {μ : List D → Nat} {m : Nat} {S : Fl → List D → Prop} {e : List D} (h : I e ∧ μ e < m) : whS I μ m S .ct e := h
theorem wh_bk {I : List D → Prop} {μ : List D → Nat} {m : Nat} {S : Fl → List D → Prop} {e : List D} (h : S .nx e) : whS I μ m S .bk e := h
theorem wh_rt {I : List D → Prop} {μ : List D → Nat} {m : Nat} {S : Fl → List D → Prop} {e : List D} {r : D} (h : S (.rt r) e) : whS I μ m S (.rt r) e := h
theorem wp_while {p : M Bool} {body : M Fl} {S : Fl → List D → Prop} {X : XP} (I : List D → Prop) (μ : List D → Nat)
    (step : ∀ env, I env → wp p env (fun b e => br b (wp body e (whS I μ (μ env) S) X) (S .nx e)) X) : ∀ (n : Nat) {env : List D}, I env → μ env < n → wp (whileN p body n) env S X
  | 0, _, _, h => absurd h (Nat.not_lt_zero _)
  | n + 1, env, h, hn => by
    have hs := step env h
    refine wp_bnd (wp_mono hs fun b e h1 => ?_)
    cases b with
    | false => exact ⟨h1.run⟩
    | true =>
      have h2 : wp body e (whS I μ (μ env) S) X := h1.run
      show wp (bnd body _) e S X
      refine wp_bnd (wp_mono h2 fun fl e5 h3 => ?_)
      cases fl with
      | nx => exact wp_while I μ step n h3.1 (by have := h3.2; omega)
      | ct => exact wp_while I μ step n h3.1 (by have := h3.2; omega)
      | bk => exact ⟨h3⟩
      | rt r => exact ⟨h3⟩
/-- one turn of a while that is walked turn by turn -/
theorem wp_while1 {p : M Bool} {body : M Fl} {S : Fl → List D → Prop} {X : XP} {n : Nat} {env : List D} (h : wp p env (fun b e => br b (wp body e (fun fl e => match fl with
      | .nx => wp (whileN p body n) e S X
      | .ct => wp (whileN p body n) e S X
      | .bk => S .nx e
      | .rt r => S (.rt r) e) X) (S .nx e)) X) : wp (whileN p body (n + 1)) env S X := by
  refine wp_bnd (wp_mono h fun b e h1 => ?_)
  cases b with
  | false => exact ⟨h1.run⟩
  | true =>
    have h2 : wp body e _ X := h1.run
    show wp (bnd body _) e S X
    refine wp_bnd (wp_mono h2 fun fl e5 h3 => ?_)
    cases fl with
    | nx => exact h3
    | ct => exact h3
    | bk => exact ⟨h3⟩
    | rt r => exact ⟨h3⟩
end Pm

namespace Lw
open PySem PySem.Spec PyProof.Rows L2 Pm
/-! ### the text by places -/
def top (i : Nat) : Stmt := PySem.Challenge.pw_numbersenough_k89_windows_for_lifetimes.main.body.getD i (.Pass ⟨0, 0, 0, 0⟩)
abbrev s_f_Channel_fields : Stmt := inClass (top 17) 1
abbrev s_f_Lifetime_init : Stmt := inClass (top 22) 1
abbrev s_f_Rule_fields : Stmt := inClass (top 16) 1
abbrev s_f_law_least : Stmt := top 32
abbrev s_f_law_life_drawn : Stmt := top 37
abbrev s_f_law_like : Stmt := top 31
abbrev s_f_law_cell : Stmt := top 28
abbrev s_f_law_mix : Stmt := top 29
abbrev s_f_law_numbers : Stmt := top 30
abbrev s_f_law_rule_drawn : Stmt := top 36
abbrev s_f_group_of : Stmt := top 15
abbrev s_f_Rule_init : Stmt := inClass (top 16) 0
abbrev s_f_law_longest : Stmt := top 34
abbrev s_f_resends_base : Stmt := top 1
abbrev s_f_gain_of : Stmt := top 3
abbrev s_f_growth : Stmt := top 4
abbrev s_f_reach_of : Stmt := top 2
abbrev s_f_least_by_formula : Stmt := top 5
abbrev s_f_Channel_init : Stmt := inClass (top 17) 0
abbrev s_f_lag : Stmt := top 23
abbrev s_f_lifetime_channel : Stmt := top 24
abbrev s_f_least_for_lifetime : Stmt := top 25
abbrev s_f_check_numbers : Stmt := top 18
abbrev s_f_longest_lifetime : Stmt := top 26
abbrev s_f_law_side : Stmt := top 35
abbrev s_f_law_window : Stmt := top 33
abbrev s_f_largest_window : Stmt := top 20
abbrev s_f_law : Stmt := top 38
theorem bt_abs : bootBuiltins "abs" = some (.builtin "abs") := by decide +kernel
theorem bt_isinstance : bootBuiltins "isinstance" = some (.builtin "isinstance") := by decide +kernel
theorem bt_len : bootBuiltins "len" = some (.builtin "len") := by decide +kernel
theorem bt_max : bootBuiltins "max" = some (.builtin "max") := by decide +kernel
theorem bt_min : bootBuiltins "min" = some (.builtin "min") := by decide +kernel
theorem bt_bool : bootBuiltins "bool" = some (.type "bool") := by decide +kernel
theorem bt_int : bootBuiltins "int" = some (.type "int") := by decide +kernel
theorem bt_list : bootBuiltins "list" = some (.type "list") := by decide +kernel
theorem bt_str : bootBuiltins "str" = some (.type "str") := by decide +kernel
theorem bt_tuple : bootBuiltins "tuple" = some (.type "tuple") := by decide +kernel
/-! ### the mirrors -/
def tb_is_bool : TbI := ⟨[("NoneType", false), ("bool", true), ("int", false), ("str", false), ("list", false), ("tuple", false), ("dict", false)], []⟩
def tb_is_int : TbI := ⟨[("NoneType", false), ("bool", true), ("int", true), ("str", false), ("list", false), ("tuple", false), ("dict", false)], []⟩
def tb_is_str : TbI := ⟨[("NoneType", false), ("bool", false), ("int", false), ("str", true), ("list", false), ("tuple", false), ("dict", false)], []⟩
def tb_is_str_int_t : TbI := ⟨[("NoneType", false), ("bool", true), ("int", true), ("str", true), ("list", false), ("tuple", false), ("dict", false)], []⟩
def tb_is_tuple : TbI := ⟨[("NoneType", false), ("bool", false), ("int", false), ("str", false), ("list", false), ("tuple", true), ("dict", false)], []⟩
def tb_is_list : TbI := ⟨[("NoneType", false), ("bool", false), ("int", false), ("str", false), ("list", true), ("tuple", false), ("dict", false)], []⟩
def tb_is_list_tuple_t : TbI := ⟨[("NoneType", false), ("bool", false), ("int", false), ("str", false), ("list", true), ("tuple", true), ("dict", false)], []⟩
def tb_isc_Channel : TbI := ⟨[], [(0, false), (1, true), (2, false)]⟩
def tb_isc_Lifetime : TbI := ⟨[], [(0, false), (1, false), (2, true)]⟩
abbrev alX : List Nat := [101, 102, 103, 104]
def B_f_Channel_fields : M Fl := (sRt (eTup (aCons (eAtW 0 [(1, 0)]) (aCons (eAtW 0 [(1, 1)]) aNil))))
def F_f_Channel_fields : List D → Out D := defM B_f_Channel_fields 0 [true]
def B_f_Lifetime_init : M Fl := (sSeq (sIf (qNot (qB (eChain leI leI (eC (.int 0)) (eV 1) (eC (.int 1000)))))
 (sRaise 104 1 (aCons (eC (.str "ticks")) aNil))
 sNx)
 (sSeq (sIf (qNot (qB (eChain leI leI (eC (.int 1)) (eV 2) (eC (.int 1000)))))
 (sRaise 104 1 (aCons (eC (.str "rate")) aNil))
 sNx)
 (sSeq (sAt 0 2 0 (eV 1))
 (sAt 0 2 1 (eV 2)))))
def F_f_Lifetime_init : List D → Out D := defM B_f_Lifetime_init 0 [true, false, false]
def B_f_Rule_fields : M Fl := (sRt (eTup (aCons (eAtW 0 [(0, 0)]) (aCons (eAtW 0 [(0, 1)]) (aCons (eAtW 0 [(0, 2)]) (aCons (eAtW 0 [(0, 3)]) aNil))))))
def F_f_Rule_fields : List D → Out D := defM B_f_Rule_fields 0 [true]
def B_f_law_least : M Fl := (sSeq (sSet 7 (eB minB [some 1, some 0] (aCons (eTk 1) (aCons (eTk 0) aNil))))
 (sSeq (sSet 8 (eV 0))
 (sSeq (sIf (qOr (qB (eBin eqD (eV 4) (eC (.str "none")))) (qAnd (qB (eBin eqD (eV 4) (eC (.str "last")))) (qB (eBin gtI (eV 0) (eC (.int 1))))))
 (sSeq (sSet 7 (eB minB [some 7, none] (aCons (eTk 7) (aCons (eBin addD (eV 5) (eC (.int 1))) aNil))))
 (sSet 8 (eC (.int 1))))
 sNx)
 (sSeq (sSet 9 (eC (.int 0)))
 (sSeq (sIf (qAnd (qB (eBin gtI (eV 6) (eC (.int 0)))) (qB (eBin gtI (eV 2) (eC (.int 0)))))
 (sSet 9 (eBin addD (eB minB [none, some 0] (aCons (eBin addD (eBin subI (eV 7) (eC (.int 1))) (eV 2)) (aCons (eTk 0) aNil))) (eBin mulI (eBin subI (eV 6) (eC (.int 1))) (eB minB [some 2, some 0] (aCons (eTk 2) (aCons (eTk 0) aNil))))))
 (sIf (qB (eBin eqD (eV 3) (eC (.str "free"))))
 (sSet 9 (eBin mulI (eV 6) (eV 0)))
 (sIf (qB (eBin eqD (eV 2) (eC (.int 0))))
 (sSet 9 (eBin mulI (eV 6) (eV 7)))
 sNx)))
 (sRt (eB maxB [none, none] (aCons (eBin addD (eBin addD (eV 8) (eV 1)) (eV 5)) (aCons (eBin addD (eBin addD (eV 0) (eC (.int 1))) (eV 9)) aNil)))))))))
def F_f_law_least : List D → Out D := defM B_f_law_least 3 [false, false, false, false, false, false, false]
def B_f_law_life_drawn : M Fl := (sSeq (sSet 1 (eBin addD (eC (.int 1)) (eBin modI (eIxW 0 (eC (.int 5))) (eC (.int 9)))))
 (sSeq (sIf (qB (eBin eqD (eBin modI (eIxW 0 (eC (.int 6))) (eC (.int 6))) (eC (.int 1))))
 (sSet 1 (eBin addD (eC (.int 1)) (eBin modI (eIxW 0 (eC (.int 5))) (eC (.int 1000)))))
 sNx)
 (sSeq (sIf (qB (eBin eqD (eBin modI (eIxW 0 (eC (.int 6))) (eC (.int 6))) (eC (.int 2))))
 (sSet 1 (eBin ixD (eLst (aCons (eC (.int 1)) (aCons (eC (.int 7)) (aCons (eC (.int 11)) (aCons (eC (.int 13)) (aCons (eC (.int 77)) (aCons (eC (.int 91)) (aCons (eC (.int 143)) aNil)))))))) (eBin modI (eIxW 0 (eC (.int 5))) (eC (.int 7)))))
 sNx)
 (sSeq (sSet 2 (eBin subI (eBin divI (eC (.int 1001)) (eV 1)) (eC (.int 1))))
 (sSeq (sSet 3 (eBin modI (eIxW 0 (eC (.int 7))) (eBin addD (eB minB [some 2, none] (aCons (eTk 2) (aCons (eC (.int 50)) aNil))) (eC (.int 1)))))
 (sSeq (sIf (qB (eBin eqD (eBin modI (eIxW 0 (eC (.int 8))) (eC (.int 4))) (eC (.int 1))))
 (sSet 3 (eBin modI (eIxW 0 (eC (.int 7))) (eBin addD (eV 2) (eC (.int 1)))))
 sNx)
 (sSeq (sIf (qB (eBin eqD (eBin modI (eIxW 0 (eC (.int 8))) (eC (.int 4))) (eC (.int 2))))
 (sSet 3 (eV 2))
 sNx)
 (sRt (eTup (aCons (eV 3) (aCons (eV 1) aNil)))))))))))
def F_f_law_life_drawn : List D → Out D := defM B_f_law_life_drawn 3 [false]
def B_f_law_like (F : List D → Out D) : M Fl := (sSeq (sIf (qB (eIsN (eV 1)))
 (sRt (eIsN (eV 0)))
 sNx)
 (sSeq (sIf (qOr (qT (eIsi tb_is_bool (eV 1))) (qT (eIsi tb_is_bool (eV 0))))
 (sRt (eAnd (eIsi tb_is_bool (eV 1)) (eAnd (eIsi tb_is_bool (eV 0)) (eBin eqD (eV 0) (eV 1)))))
 sNx)
 (sSeq (sIf (qOr (qT (eIsi tb_is_str (eV 1))) (qT (eIsi tb_is_int (eV 1))))
 (sRt (eAnd (eBin eqD (eIsi tb_is_str (eV 0)) (eIsi tb_is_str (eV 1))) (eAnd (eIsi tb_is_str_int_t (eV 0)) (eBin eqD (eV 0) (eV 1)))))
 sNx)
 (sSeq (sIf (qOr (qB (eBin neD (eIsi tb_is_list (eV 1)) (eIsi tb_is_list (eV 0)))) (qB (eBin neD (eIsi tb_is_tuple (eV 1)) (eIsi tb_is_tuple (eV 0)))))
 (sRt (eC (.bl false)))
 sNx)
 (sSeq (sIf (qOr (qNot (qT (eIsi tb_is_list_tuple_t (eV 0)))) (qB (eBin neD (eB lenB [some 0] (aCons (eTk 0) aNil)) (eB lenB [some 1] (aCons (eTk 1) aNil)))))
 (sRt (eC (.bl false)))
 sNx)
 (sSeq (sFor (iRg1 (aCons (eB lenB [some 1] (aCons (eTk 1) aNil)) aNil)) (gN 2)
 (sIf (qNot (qT (eCall F (ids [none, none]) (aCons (eIxW 0 (eV 2)) (aCons (eIxW 1 (eV 2)) aNil)))))
 (sRt (eC (.bl false)))
 sNx))
 (sRt (eC (.bl true)))))))))
def R_f_law_like : Nat → List D → Out D
  | 0 => fun _ => .bad
  | n + 1 => defM (B_f_law_like (R_f_law_like n)) 1 [false, false]
abbrev F_f_law_like : List D → Out D := R_f_law_like 8
def B_f_law_cell : M Fl := (sSeq (sIf (qB (eBin ltI (eV 1) (eB lenB [some 0] (aCons (eTk 0) aNil))))
 (sRt (eIxW 0 (eV 1)))
 sNx)
 (sRt (eC (.int 0))))
def F_f_law_cell : List D → Out D := defM B_f_law_cell 0 [false, false]
def B_f_law_mix : M Fl := (sSeq (sSet 2 (eBin modI (eB intA [none] (aCons (eBin addD (eBin mulI (eB intA [some 0] (aCons (eTk 0) aNil)) (eC (.int 48271))) (eBin mulI (eBin addD (eV 1) (eC (.int 1))) (eC (.int 69621)))) aNil)) (eC (.int 2147483647))))
 (sSeq (sSet 3 (eBin modI (eB intA [none] (aCons (eBin addD (eBin mulI (eV 2) (eV 2)) (eBin mulI (eBin addD (eV 1) (eC (.int 3))) (eC (.int 40692)))) aNil)) (eC (.int 2147483629))))
 (sRt (eBin divI (eBin modI (eB intA [none] (aCons (eBin addD (eBin mulI (eV 3) (eV 3)) (eV 2)) aNil)) (eC (.int 2147483587))) (eC (.int 13))))))
def F_f_law_mix : List D → Out D := defM B_f_law_mix 2 [false, false]
def B_f_law_numbers : M Fl := (sSeq (sSet 3 (eLst aNil))
 (sSeq (sSet 4 (eB absB [none] (aCons (eCall F_f_law_cell (ids [none, none]) (aCons (eV 0) (aCons (eV 1) aNil))) aNil)))
 (sSeq (sIf (qB (eBin geI (eV 4) (eBin powI (eC (.int 10)) (eC (.int 18)))))
 (sFor (iRg1 (aCons (eV 2) aNil)) (gN 5)
 (sIf (qB (eBin gtI (eV 4) (eC (.int 0))))
 (sSeq (sEx (eApp 3 (eBin modI (eB intA [some 4] (aCons (eTk 4) aNil)) (eC (.int 1009)))))
 (sSet 4 (eBin divI (eB intA [some 4] (aCons (eTk 4) aNil)) (eC (.int 1009)))))
 sNx))
 sNx)
 (sSeq (sFor (iRg2 (aCons (eB lenB [some 3] (aCons (eTk 3) aNil)) (aCons (eV 2) aNil))) (gN 5)
 (sEx (eApp 3 (eCall F_f_law_mix (ids [none, none]) (aCons (eCall F_f_law_cell (ids [none, none]) (aCons (eV 0) (aCons (eBin modI (eBin addD (eV 1) (eV 5)) (eB maxB [none, none] (aCons (eC (.int 1)) (aCons (eB lenB [some 0] (aCons (eTk 0) aNil)) aNil)))) aNil))) (aCons (eBin addD (eV 1) (eV 5)) aNil))))))
 (sRt (eTk 3))))))
def F_f_law_numbers : List D → Out D := defM B_f_law_numbers 3 [false, false, false]
def B_f_law_rule_drawn : M Fl := (sSeq (sSet 1 (eBin addD (eC (.int 1)) (eBin modI (eIxW 0 (eC (.int 0))) (eC (.int 9)))))
 (sSeq (sIf (qB (eBin eqD (eBin modI (eIxW 0 (eC (.int 1))) (eC (.int 6))) (eC (.int 1))))
 (sSet 1 (eBin addD (eC (.int 1)) (eBin modI (eIxW 0 (eC (.int 0))) (eC (.int 1000)))))
 sNx)
 (sSeq (sSet 2 (eBin modI (eIxW 0 (eC (.int 3))) (eC (.int 6))))
 (sSeq (sSet 3 (eBin ixD (eLst (aCons (eC (.int 1)) (aCons (eBin addD (eC (.int 2)) (eBin modI (eIxW 0 (eC (.int 2))) (eC (.int 9)))) (aCons (eC (.int 0)) (aCons (eC (.int 0)) (aCons (eC (.int 1)) (aCons (eBin addD (eC (.int 2)) (eBin modI (eIxW 0 (eC (.int 2))) (eC (.int 999)))) aNil))))))) (eV 2)))
 (sSeq (sSet 4 (eBin ixD (eLst (aCons (eC (.str "each")) (aCons (eBin addD (eC (.str "every ")) (eB strB [some 3] (aCons (eTk 3) aNil))) (aCons (eC (.str "free")) (aCons (eC (.str "fresh")) (aCons (eC (.str "each")) (aCons (eBin addD (eC (.str "every ")) (eB strB [some 3] (aCons (eTk 3) aNil))) aNil))))))) (eV 2)))
 (sRt (eTup (aCons (eV 1) (aCons (eV 3) (aCons (eV 4) (aCons (eBin ixD (eLst (aCons (eC (.str "any")) (aCons (eC (.str "first")) (aCons (eC (.str "last")) (aCons (eC (.str "none")) aNil))))) (eBin modI (eIxW 0 (eC (.int 4))) (eC (.int 4)))) aNil)))))))))))
def F_f_law_rule_drawn : List D → Out D := defM B_f_law_rule_drawn 4 [false]
def B_f_group_of : M Fl := (sSeq (sIf (qB (eBin eqD (eV 0) (eC (.str "each"))))
 (sRt (eC (.int 1)))
 sNx)
 (sSeq (sIf (qOr (qB (eBin eqD (eV 0) (eC (.str "free")))) (qB (eBin eqD (eV 0) (eC (.str "fresh")))))
 (sRt (eC (.int 0)))
 sNx)
 (sSeq (sSet 1 (eSl (eV 0) (pSo (eC (.int 6))) pNo))
 (sSeq (sIf (qOr (qNot (qT (e_startswith (eV 0) (eC (.str "every "))))) (qOr (qNot (qT (e_isdigit (eV 1)))) (qOr (qB (eBin gtI (eB lenB [some 1] (aCons (eTk 1) aNil)) (eC (.int 4)))) (qB (eBin eqD (eIxW 1 (eC (.int 0))) (eC (.str "0")))))))
 (sRt (eUn negI (eC (.int 1))))
 sNx)
 (sSeq (sSet 2 (eB intA [some 1] (aCons (eTk 1) aNil)))
 (sSeq (sIf (qB (eChain leI leI (eC (.int 2)) (eV 2) (eC (.int 1000))))
 (sRt (eTk 2))
 sNx)
 (sRt (eUn negI (eC (.int 1))))))))))
def F_f_group_of : List D → Out D := defM B_f_group_of 2 [false]
def B_f_Rule_init : M Fl := (sSeq (sIf (qNot (qB (eChain leI leI (eC (.int 1)) (eV 1) (eC (.int 1000)))))
 (sRaise 101 1 (aCons (eC (.str "w")) aNil))
 sNx)
 (sSeq (sIf (qNot (qB (eChain leI leI (eC (.int 1)) (eV 2) (eC (.int 1000)))))
 (sRaise 101 1 (aCons (eC (.str "r")) aNil))
 sNx)
 (sSeq (sIf (qB (eBin ltI (eCall F_f_group_of (ids [none]) (aCons (eV 3) aNil)) (eC (.int 0))))
 (sRaise 101 1 (aCons (eC (.str "acks")) aNil))
 sNx)
 (sSeq (sIf (qB (eBin notInD (eV 4) (eTup (aCons (eC (.str "any")) (aCons (eC (.str "first")) (aCons (eC (.str "last")) (aCons (eC (.str "none")) aNil)))))))
 (sRaise 101 1 (aCons (eC (.str "resend")) aNil))
 sNx)
 (sSeq (sAt 0 0 0 (eV 1))
 (sSeq (sAt 0 0 1 (eV 2))
 (sSeq (sAt 0 0 2 (eV 3))
 (sSeq (sAt 0 0 3 (eV 4))
 (sAt 0 0 4 (eCall F_f_group_of (ids [none]) (aCons (eV 3) aNil)))))))))))
def F_f_Rule_init : List D → Out D := defM B_f_Rule_init 0 [true, false, false, false, false]
def B_f_law_longest : M Fl := (sSeq (sSet 8 (eUn negI (eC (.int 1))))
 (sSeq (sSet 9 (eBin subI (eBin divI (eC (.int 1001)) (eV 5)) (eC (.int 1))))
 (sSeq (sFor (iRg1 (aCons (eC (.int 12)) aNil)) (gN 10)
 (sIf (qB (eBin ltI (eV 8) (eV 9)))
 (sSeq (sSet 11 (eBin divI (eBin addD (eBin addD (eV 8) (eV 9)) (eC (.int 1))) (eC (.int 2))))
 (sIf (qB (eBin leI (eCall F_f_law_least (ids [none, none, none, none, none, none, none]) (aCons (eV 0) (aCons (eV 1) (aCons (eV 2) (aCons (eV 3) (aCons (eV 4) (aCons (eBin subI (eBin mulI (eV 5) (eBin addD (eV 11) (eC (.int 1)))) (eC (.int 1))) (aCons (eV 6) aNil)))))))) (eV 7)))
 (sSet 8 (eV 11))
 (sSet 9 (eBin subI (eV 11) (eC (.int 1))))))
 sNx))
 (sRt (eTk 8)))))
def F_f_law_longest : List D → Out D := defM B_f_law_longest 4 [false, false, false, false, false, false, false, false]
def B_f_resends_base : M Fl := (sRt (eOr (eBin inD (eAtW 0 [(0, 3)]) (eTup (aCons (eC (.str "any")) (aCons (eC (.str "first")) aNil)))) (eAnd (eBin eqD (eAtW 0 [(0, 3)]) (eC (.str "last"))) (eBin eqD (eAtW 0 [(0, 0)]) (eC (.int 1))))))
def F_f_resends_base : List D → Out D := defM B_f_resends_base 0 [false]
def B_f_gain_of : M Fl := (sSeq (sIf (qT (eCall F_f_resends_base (ids [none]) (aCons (eV 0) aNil)))
 (sRt (eB minB [none, none] (aCons (eAtW 0 [(0, 0)]) (aCons (eAtW 0 [(0, 1)]) aNil))))
 sNx)
 (sRt (eB (on3 min3) [none, none, none] (aCons (eAtW 0 [(0, 0)]) (aCons (eAtW 0 [(0, 1)]) (aCons (eBin addD (eAtW 1 [(1, 0)]) (eC (.int 1))) aNil))))))
def F_f_gain_of : List D → Out D := defM B_f_gain_of 0 [false, false]
def B_f_growth : M Fl := (sSeq (sIf (qB (eBin eqD (eAtW 1 [(1, 1)]) (eC (.int 0))))
 (sRt (eC (.int 0)))
 sNx)
 (sSeq (sSet 2 (eCall F_f_gain_of (ids [none, none]) (aCons (eV 0) (aCons (eV 1) aNil))))
 (sSeq (sIf (qB (eBin eqD (eAtW 0 [(0, 2)]) (eC (.str "free"))))
 (sRt (eBin mulI (eAtW 1 [(1, 1)]) (eAtW 0 [(0, 0)])))
 sNx)
 (sSeq (sIf (qB (eBin eqD (eAtW 0 [(0, 2)]) (eC (.str "fresh"))))
 (sRt (eBin mulI (eAtW 1 [(1, 1)]) (eV 2)))
 sNx)
 (sRt (eBin addD (eB minB [none, none] (aCons (eBin addD (eBin subI (eV 2) (eC (.int 1))) (eAtW 0 [(0, 4)])) (aCons (eAtW 0 [(0, 0)]) aNil))) (eBin mulI (eBin subI (eAtW 1 [(1, 1)]) (eC (.int 1))) (eB minB [none, none] (aCons (eAtW 0 [(0, 4)]) (aCons (eAtW 0 [(0, 0)]) aNil))))))))))
def F_f_growth : List D → Out D := defM B_f_growth 1 [false, false]
def B_f_reach_of : M Fl := (sSeq (sIf (qT (eCall F_f_resends_base (ids [none]) (aCons (eV 0) aNil)))
 (sRt (eAtW 0 [(0, 0)]))
 sNx)
 (sRt (eC (.int 1))))
def F_f_reach_of : List D → Out D := defM B_f_reach_of 0 [false]
def B_f_least_by_formula : M Fl := (sRt (eB maxB [none, none] (aCons (eBin addD (eBin addD (eCall F_f_reach_of (ids [none]) (aCons (eV 0) aNil)) (eAtW 0 [(0, 1)])) (eAtW 1 [(1, 0)])) (aCons (eBin addD (eBin addD (eAtW 0 [(0, 0)]) (eC (.int 1))) (eCall F_f_growth (ids [none, none]) (aCons (eV 0) (aCons (eV 1) aNil)))) aNil))))
def F_f_least_by_formula : List D → Out D := defM B_f_least_by_formula 0 [false, false]
def B_f_Channel_init : M Fl := (sSeq (sIf (qNot (qB (eChain leI leI (eC (.int 0)) (eV 1) (eC (.int 1000)))))
 (sRaise 102 1 (aCons (eC (.str "k")) aNil))
 sNx)
 (sSeq (sIf (qNot (qB (eChain leI leI (eC (.int 0)) (eV 2) (eC (.int 1000)))))
 (sRaise 102 1 (aCons (eC (.str "j")) aNil))
 sNx)
 (sSeq (sAt 0 1 0 (eV 1))
 (sAt 0 1 1 (eV 2)))))
def F_f_Channel_init : List D → Out D := defM B_f_Channel_init 0 [true, false, false]
def B_f_lag : M Fl := (sRt (eBin subI (eBin mulI (eAtW 0 [(2, 1)]) (eBin addD (eAtW 0 [(2, 0)]) (eC (.int 1)))) (eC (.int 1))))
def F_f_lag : List D → Out D := defM B_f_lag 0 [false]
def B_f_lifetime_channel : M Fl := (sRt (eMk 1 F_f_Channel_init [none, none] (aCons (eCall F_f_lag (ids [none]) (aCons (eV 0) aNil)) (aCons (eV 1) aNil))))
def F_f_lifetime_channel : List D → Out D := defM B_f_lifetime_channel 0 [false, false]
def B_f_least_for_lifetime : M Fl := (sRt (eCall F_f_least_by_formula (ids [none, none]) (aCons (eV 0) (aCons (eCall F_f_lifetime_channel (ids [none, none]) (aCons (eV 1) (aCons (eV 2) aNil))) aNil))))
def F_f_least_for_lifetime : List D → Out D := defM B_f_least_for_lifetime 0 [false, false, false]
def B_f_check_numbers : M Fl := (sIf (qNot (qB (eChain leI leI (eC (.int 1)) (eV 0) (eC (.int 2000000)))))
 (sRaise 103 1 (aCons (eV 0) aNil))
 sNx)
def F_f_check_numbers : List D → Out D := defM B_f_check_numbers 0 [false]
def B_f_longest_lifetime : M Fl := (sSeq (sEx (eCall F_f_check_numbers (ids [none]) (aCons (eV 3) aNil)))
 (sSeq (sIf (qB (eBin ltI (eV 3) (eCall F_f_least_for_lifetime (ids [none, none, none]) (aCons (eV 0) (aCons (eMk 2 F_f_Lifetime_init [none, none] (aCons (eC (.int 0)) (aCons (eV 1) aNil))) (aCons (eV 2) aNil))))))
 (sRt (eC .non))
 sNx)
 (sSeq (sSet 4 (eC (.int 0)))
 (sSeq (sSet 5 (eBin subI (eBin divI (eBin addD (eC (.int 1000)) (eC (.int 1))) (eV 1)) (eC (.int 1))))
 (sSeq (whileN (qB (eBin ltI (eV 4) (eV 5)))
 (sSeq (sSet 6 (eBin divI (eBin addD (eBin addD (eV 4) (eV 5)) (eC (.int 1))) (eC (.int 2))))
 (sIf (qB (eBin leI (eCall F_f_least_for_lifetime (ids [none, none, none]) (aCons (eV 0) (aCons (eMk 2 F_f_Lifetime_init [none, none] (aCons (eV 6) (aCons (eV 1) aNil))) (aCons (eV 2) aNil)))) (eV 3)))
 (sSet 4 (eV 6))
 (sSet 5 (eBin subI (eV 6) (eC (.int 1)))))) 100000)
 (sRt (eMk 2 F_f_Lifetime_init [none, none] (aCons (eV 4) (aCons (eV 1) aNil)))))))))
def F_f_longest_lifetime : List D → Out D := defM B_f_longest_lifetime 3 [false, false, false, false]
def B_f_law_side : M Fl := (sSeq (sAsg (eV 1) (gT 4 (gsCons (gN 7) (gsCons (gN 8) (gsCons (gN 9) (gsCons (gN 10) gsNil))))))
 (sSeq (sSet 11 (eMk 0 F_f_Rule_init [none, none, none, none] (aCons (eV 0) (aCons (eV 7) (aCons (eV 9) (aCons (eV 10) aNil))))))
 (sSeq (sSet 12 (eCall F_f_law_least (ids [none, none, none, none, none, none, none]) (aCons (eV 0) (aCons (eV 7) (aCons (eV 8) (aCons (eV 9) (aCons (eV 10) (aCons (eBin subI (eBin mulI (eV 3) (eBin addD (eV 2) (eC (.int 1)))) (eC (.int 1))) (aCons (eV 4) aNil)))))))))
 (sSeq (sIf (qOr (qNot (qT (eCall F_f_law_like (ids [none, none]) (aCons (eCall F_f_least_for_lifetime (ids [none, none, none]) (aCons (eV 11) (aCons (eMk 2 F_f_Lifetime_init [none, none] (aCons (eV 2) (aCons (eV 3) aNil))) (aCons (eV 4) aNil)))) (aCons (eV 12) aNil))))) (qB (eBin neD (eBin leI (eV 12) (eV 5)) (eV 6))))
 (sRt (eC (.bl false)))
 sNx)
 (sSeq (sSet 13 (eCall F_f_law_longest (ids [none, none, none, none, none, none, none, none]) (aCons (eV 0) (aCons (eV 7) (aCons (eV 8) (aCons (eV 9) (aCons (eV 10) (aCons (eV 3) (aCons (eV 4) (aCons (eV 5) aNil))))))))))
 (sSeq (sSet 14 (eCall F_f_longest_lifetime (ids [none, none, none, none]) (aCons (eV 11) (aCons (eV 3) (aCons (eV 4) (aCons (eV 5) aNil))))))
 (sSeq (sIf (qB (eBin ltI (eV 13) (eC (.int 0))))
 (sRt (eAnd (eIsN (eV 14)) (eNot (eV 6))))
 sNx)
 (sSeq (sIf (qOr (qNot (qT (eIsi tb_isc_Lifetime (eV 14)))) (qNot (qT (eCall F_f_law_like (ids [none, none]) (aCons (eTup (aCons (eAtW 14 [(2, 0)]) (aCons (eAtW 14 [(2, 1)]) aNil))) (aCons (eTup (aCons (eV 13) (aCons (eV 3) aNil))) aNil))))))
 (sRt (eC (.bl false)))
 sNx)
 (sRt (eBin eqD (eBin geI (eV 13) (eV 2)) (eV 6)))))))))))
def F_f_law_side : List D → Out D := defM B_f_law_side 8 [false, false, false, false, false, false, false]
def B_f_law_window : M Fl := (sSeq (sSet 7 (eC (.int 0)))
 (sSeq (sSet 8 (eC (.int 1000)))
 (sSeq (sFor (iRg1 (aCons (eC (.int 12)) aNil)) (gN 9)
 (sIf (qB (eBin ltI (eV 7) (eV 8)))
 (sSeq (sSet 10 (eBin divI (eBin addD (eBin addD (eV 7) (eV 8)) (eC (.int 1))) (eC (.int 2))))
 (sIf (qB (eBin leI (eCall F_f_law_least (ids [none, none, none, none, none, none, none]) (aCons (eV 10) (aCons (eV 0) (aCons (eV 1) (aCons (eV 2) (aCons (eV 3) (aCons (eV 4) (aCons (eV 5) aNil)))))))) (eV 6)))
 (sSet 7 (eV 10))
 (sSet 8 (eBin subI (eV 10) (eC (.int 1))))))
 sNx))
 (sRt (eTk 7)))))
def F_f_law_window : List D → Out D := defM B_f_law_window 4 [false, false, false, false, false, false, false]
def B_f_largest_window : M Fl := (sSeq (sEx (eCall F_f_check_numbers (ids [none]) (aCons (eV 1) aNil)))
 (sSeq (sSet 5 (eC (.int 0)))
 (sSeq (sSet 6 (eC (.int 1000)))
 (sSeq (sSet 7 (eMk 0 F_f_Rule_init [none, none, none, none] (aCons (eC (.int 1)) (aCons (eV 2) (aCons (eV 3) (aCons (eV 4) aNil))))))
 (sSeq (whileN (qB (eBin ltI (eV 5) (eV 6)))
 (sSeq (sSet 8 (eBin divI (eBin addD (eBin addD (eV 5) (eV 6)) (eC (.int 1))) (eC (.int 2))))
 (sIf (qB (eBin leI (eCall F_f_least_by_formula (ids [none, none]) (aCons (eMk 0 F_f_Rule_init [none, none, none, none] (aCons (eV 8) (aCons (eAtW 7 [(0, 1)]) (aCons (eV 3) (aCons (eV 4) aNil))))) (aCons (eV 0) aNil))) (eV 1)))
 (sSet 5 (eV 8))
 (sSet 6 (eBin subI (eV 8) (eC (.int 1)))))) 100000)
 (sRt (eTk 5)))))))
def F_f_largest_window : List D → Out D := defM B_f_largest_window 4 [false, false, false, false, false]
def B_f_law : M Fl := (sSeq (sSet 1 (eCall F_f_law_numbers (ids [none, none, none]) (aCons (eV 0) (aCons (eC (.int 0)) (aCons (eC (.int 14)) aNil)))))
 (sSeq (sSet 2 (eCall F_f_law_rule_drawn (ids [none]) (aCons (eV 1) aNil)))
 (sSeq (sAsg (eV 2) (gT 4 (gsCons (gN 3) (gsCons (gN 4) (gsCons (gN 5) (gsCons (gN 6) gsNil))))))
 (sSeq (sAsg (eCall F_f_law_life_drawn (ids [none]) (aCons (eV 1) aNil)) (gT 2 (gsCons (gN 7) (gsCons (gN 8) gsNil))))
 (sSeq (sSet 9 (eBin modI (eIxW 1 (eC (.int 9))) (eC (.int 6))))
 (sSeq (sIf (qB (eBin eqD (eBin modI (eIxW 1 (eC (.int 10))) (eC (.int 6))) (eC (.int 1))))
 (sSet 9 (eBin modI (eIxW 1 (eC (.int 9))) (eC (.int 1001))))
 sNx)
 (sSeq (sSet 10 (eBin addD (eC (.int 1)) (eBin modI (eIxW 1 (eC (.int 11))) (eC (.int 40)))))
 (sSeq (sIf (qB (eBin eqD (eBin modI (eIxW 1 (eC (.int 12))) (eC (.int 4))) (eC (.int 1))))
 (sSet 10 (eBin addD (eC (.int 1)) (eBin modI (eIxW 1 (eC (.int 11))) (eC (.int 1000)))))
 sNx)
 (sSeq (sIf (qB (eBin eqD (eBin modI (eIxW 1 (eC (.int 12))) (eC (.int 4))) (eC (.int 2))))
 (sSet 10 (eC (.int 1)))
 sNx)
 (sSeq (sIf (qB (eBin eqD (eBin modI (eIxW 1 (eC (.int 12))) (eC (.int 8))) (eC (.int 3))))
 (sSet 10 (eBin subI (eC (.int 1000)) (eBin modI (eIxW 1 (eC (.int 11))) (eC (.int 2)))))
 sNx)
 (sSeq (sSet 11 (eBin subI (eBin mulI (eV 8) (eBin addD (eV 7) (eC (.int 1)))) (eC (.int 1))))
 (sSeq (sSet 12 (eBin addD (eBin subI (eCall F_f_law_least (ids [none, none, none, none, none, none, none]) (aCons (eV 10) (aCons (eV 3) (aCons (eV 4) (aCons (eV 5) (aCons (eV 6) (aCons (eV 11) (aCons (eV 9) aNil)))))))) (eC (.int 1))) (eBin modI (eIxW 1 (eC (.int 13))) (eC (.int 3)))))
 (sSeq (sSet 13 (eMk 2 F_f_Lifetime_init [none, none] (aCons (eV 7) (aCons (eV 8) aNil))))
 (sSeq (sSet 14 (eCall F_f_lifetime_channel (ids [none, none]) (aCons (eV 13) (aCons (eV 9) aNil))))
 (sSeq (sIf (qOr (qNot (qT (eCall F_f_law_like (ids [none, none]) (aCons (eCall F_f_lag (ids [none]) (aCons (eV 13) aNil)) (aCons (eV 11) aNil))))) (qOr (qNot (qT (eIsi tb_isc_Channel (eV 14)))) (qNot (qT (eCall F_f_law_like (ids [none, none]) (aCons (eCase (isC 14 0) (eMethV 14 0 F_f_Rule_fields [] aNil) (eMethV 14 1 F_f_Channel_fields [] aNil)) (aCons (eTup (aCons (eV 11) (aCons (eV 9) aNil))) aNil)))))))
 (sRt (eC (.bl false)))
 sNx)
 (sSeq (sSet 15 (eCall F_f_law_window (ids [none, none, none, none, none, none, none]) (aCons (eV 3) (aCons (eV 4) (aCons (eV 5) (aCons (eV 6) (aCons (eV 11) (aCons (eV 9) (aCons (eV 12) aNil)))))))))
 (sSeq (sIf (qNot (qT (eCall F_f_law_like (ids [none, none]) (aCons (eCallK F_f_largest_window (selOf [] [.inl 0, .inl 1, .inl 2]) (aCons (eV 14) (aCons (eV 12) aNil)) (aConsF (eV 3) (aConsF (eV 5) (aConsF (eV 6) aNil)))) (aCons (eV 15) aNil)))))
 (sRt (eC (.bl false)))
 sNx)
 (sSeq (sIf (qAnd (qB (eBin gtI (eV 15) (eC (.int 0)))) (qNot (qT (eCall F_f_law_side (ids [none, none, none, none, none, none, none]) (aCons (eV 15) (aCons (eV 2) (aCons (eV 7) (aCons (eV 8) (aCons (eV 9) (aCons (eV 12) (aCons (eC (.bl true)) aNil)))))))))))
 (sRt (eC (.bl false)))
 sNx)
 (sRt (eOr (eBin eqD (eV 15) (eC (.int 1000))) (eCall F_f_law_side (ids [none, none, none, none, none, none, none]) (aCons (eBin addD (eV 15) (eC (.int 1))) (aCons (eV 2) (aCons (eV 7) (aCons (eV 8) (aCons (eV 9) (aCons (eV 12) (aCons (eC (.bl false)) aNil))))))))))))))))))))))))))))
def F_f_law : List D → Out D := defM B_f_law 15 []
/-! ### the facts -/
structure Ad where
  a_f_Channel_fields : Addr
  d_f_Channel_fields : FuncData
  a_f_Lifetime_init : Addr
  d_f_Lifetime_init : FuncData
  a_f_Rule_fields : Addr
  d_f_Rule_fields : FuncData
  a_f_law_least : Addr
  d_f_law_least : FuncData
  a_f_law_life_drawn : Addr
  d_f_law_life_drawn : FuncData
  a_f_law_like : Addr
  d_f_law_like : FuncData
  a_f_law_cell : Addr
  d_f_law_cell : FuncData
  a_f_law_mix : Addr
  d_f_law_mix : FuncData
  a_f_law_numbers : Addr
  d_f_law_numbers : FuncData
  a_f_law_rule_drawn : Addr
  d_f_law_rule_drawn : FuncData
  a_f_group_of : Addr
  d_f_group_of : FuncData
  a_f_Rule_init : Addr
  d_f_Rule_init : FuncData
  a_f_law_longest : Addr
  d_f_law_longest : FuncData
  a_f_resends_base : Addr
  d_f_resends_base : FuncData
  a_f_gain_of : Addr
  d_f_gain_of : FuncData
  a_f_growth : Addr
  d_f_growth : FuncData
  a_f_reach_of : Addr
  d_f_reach_of : FuncData
  a_f_least_by_formula : Addr
  d_f_least_by_formula : FuncData
  a_f_Channel_init : Addr
  d_f_Channel_init : FuncData
  a_f_lag : Addr
  d_f_lag : FuncData
  a_f_lifetime_channel : Addr
  d_f_lifetime_channel : FuncData
  a_f_least_for_lifetime : Addr
  d_f_least_for_lifetime : FuncData
  a_f_check_numbers : Addr
  d_f_check_numbers : FuncData
  a_f_longest_lifetime : Addr
  d_f_longest_lifetime : FuncData
  a_f_law_side : Addr
  d_f_law_side : FuncData
  a_f_law_window : Addr
  d_f_law_window : FuncData
  a_f_largest_window : Addr
  d_f_largest_window : FuncData
  a_f_law : Addr
  d_f_law : FuncData
  c_Rule : Addr
  c_Channel : Addr
  c_Lifetime : Addr
  c_BadRule : Addr
  xi_BadRule : Addr
  xd_BadRule : FuncData
  c_BadChannel : Addr
  xi_BadChannel : Addr
  xd_BadChannel : FuncData
  c_BadNumbers : Addr
  xi_BadNumbers : Addr
  xd_BadNumbers : FuncData
  c_BadLifetime : Addr
  xi_BadLifetime : Addr
  xd_BadLifetime : FuncData
def clT (ad : Ad) : ClT := ⟨fun n => match n with
  | 0 => some ad.c_Rule
  | 1 => some ad.c_Channel
  | 2 => some ad.c_Lifetime
  | 101 => some ad.c_BadRule
  | 102 => some ad.c_BadChannel
  | 103 => some ad.c_BadNumbers
  | 104 => some ad.c_BadLifetime
  | _ => none, fun n => match n with
  | 0 => ["w", "r", "acks", "resend", "group"]
  | 1 => ["k", "j"]
  | 2 => ["ticks", "rate"]
  | 101 => ["place"]
  | 102 => ["place"]
  | 103 => ["numbers"]
  | 104 => ["place"]
  | _ => []⟩
structure Tx (K : PySem.W.Frag) (mg : Str → Option Value) (ad : Ad) : Prop where
  f_f_Channel_fields : L2.Fun K "fields" "Channel.fields" s_f_Channel_fields ad.a_f_Channel_fields ad.d_f_Channel_fields
  b_f_Channel_fields : Binds K ad.d_f_Channel_fields ["self"] []
  k_f_Channel_fields : PySem.W.keepIn K (.ref ad.a_f_Channel_fields) = true
  me_f_Channel_fields : Meth K ad.c_Channel "fields" ad.a_f_Channel_fields
  f_f_Lifetime_init : L2.Fun K "__init__" "Lifetime.__init__" s_f_Lifetime_init ad.a_f_Lifetime_init ad.d_f_Lifetime_init
  b_f_Lifetime_init : Binds K ad.d_f_Lifetime_init ["self", "ticks", "rate"] []
  k_f_Lifetime_init : PySem.W.keepIn K (.ref ad.a_f_Lifetime_init) = true
  f_f_Rule_fields : L2.Fun K "fields" "Rule.fields" s_f_Rule_fields ad.a_f_Rule_fields ad.d_f_Rule_fields
  b_f_Rule_fields : Binds K ad.d_f_Rule_fields ["self"] []
  k_f_Rule_fields : PySem.W.keepIn K (.ref ad.a_f_Rule_fields) = true
  me_f_Rule_fields : Meth K ad.c_Rule "fields" ad.a_f_Rule_fields
  f_f_law_least : L2.Fun K "_law_least" "_law_least" s_f_law_least ad.a_f_law_least ad.d_f_law_least
  b_f_law_least : Binds K ad.d_f_law_least ["w", "room", "group", "backs", "again", "k", "j"] []
  k_f_law_least : PySem.W.keepIn K (.ref ad.a_f_law_least) = true
  g_f_law_least : mg "_law_least" = some (.ref ad.a_f_law_least)
  f_f_law_life_drawn : L2.Fun K "_law_life_drawn" "_law_life_drawn" s_f_law_life_drawn ad.a_f_law_life_drawn ad.d_f_law_life_drawn
  b_f_law_life_drawn : Binds K ad.d_f_law_life_drawn ["row"] []
  k_f_law_life_drawn : PySem.W.keepIn K (.ref ad.a_f_law_life_drawn) = true
  g_f_law_life_drawn : mg "_law_life_drawn" = some (.ref ad.a_f_law_life_drawn)
  f_f_law_like : L2.Fun K "_law_like" "_law_like" s_f_law_like ad.a_f_law_like ad.d_f_law_like
  b_f_law_like : Binds K ad.d_f_law_like ["told", "due"] []
  k_f_law_like : PySem.W.keepIn K (.ref ad.a_f_law_like) = true
  g_f_law_like : mg "_law_like" = some (.ref ad.a_f_law_like)
  f_f_law_cell : L2.Fun K "_law_cell" "_law_cell" s_f_law_cell ad.a_f_law_cell ad.d_f_law_cell
  b_f_law_cell : Binds K ad.d_f_law_cell ["script", "k"] []
  k_f_law_cell : PySem.W.keepIn K (.ref ad.a_f_law_cell) = true
  g_f_law_cell : mg "_law_cell" = some (.ref ad.a_f_law_cell)
  f_f_law_mix : L2.Fun K "_law_mix" "_law_mix" s_f_law_mix ad.a_f_law_mix ad.d_f_law_mix
  b_f_law_mix : Binds K ad.d_f_law_mix ["seed", "k"] []
  k_f_law_mix : PySem.W.keepIn K (.ref ad.a_f_law_mix) = true
  g_f_law_mix : mg "_law_mix" = some (.ref ad.a_f_law_mix)
  f_f_law_numbers : L2.Fun K "_law_numbers" "_law_numbers" s_f_law_numbers ad.a_f_law_numbers ad.d_f_law_numbers
  b_f_law_numbers : Binds K ad.d_f_law_numbers ["script", "at", "many"] []
  k_f_law_numbers : PySem.W.keepIn K (.ref ad.a_f_law_numbers) = true
  g_f_law_numbers : mg "_law_numbers" = some (.ref ad.a_f_law_numbers)
  f_f_law_rule_drawn : L2.Fun K "_law_rule_drawn" "_law_rule_drawn" s_f_law_rule_drawn ad.a_f_law_rule_drawn ad.d_f_law_rule_drawn
  b_f_law_rule_drawn : Binds K ad.d_f_law_rule_drawn ["row"] []
  k_f_law_rule_drawn : PySem.W.keepIn K (.ref ad.a_f_law_rule_drawn) = true
  g_f_law_rule_drawn : mg "_law_rule_drawn" = some (.ref ad.a_f_law_rule_drawn)
  f_f_group_of : L2.Fun K "group_of" "group_of" s_f_group_of ad.a_f_group_of ad.d_f_group_of
  b_f_group_of : Binds K ad.d_f_group_of ["acks"] []
  k_f_group_of : PySem.W.keepIn K (.ref ad.a_f_group_of) = true
  g_f_group_of : mg "group_of" = some (.ref ad.a_f_group_of)
  f_f_Rule_init : L2.Fun K "__init__" "Rule.__init__" s_f_Rule_init ad.a_f_Rule_init ad.d_f_Rule_init
  b_f_Rule_init : Binds K ad.d_f_Rule_init ["self", "w", "r", "acks", "resend"] []
  k_f_Rule_init : PySem.W.keepIn K (.ref ad.a_f_Rule_init) = true
  f_f_law_longest : L2.Fun K "_law_longest" "_law_longest" s_f_law_longest ad.a_f_law_longest ad.d_f_law_longest
  b_f_law_longest : Binds K ad.d_f_law_longest ["size", "room", "group", "kind", "again", "rate", "j", "numbers"] []
  k_f_law_longest : PySem.W.keepIn K (.ref ad.a_f_law_longest) = true
  g_f_law_longest : mg "_law_longest" = some (.ref ad.a_f_law_longest)
  f_f_resends_base : L2.Fun K "resends_base" "resends_base" s_f_resends_base ad.a_f_resends_base ad.d_f_resends_base
  b_f_resends_base : Binds K ad.d_f_resends_base ["rule"] []
  k_f_resends_base : PySem.W.keepIn K (.ref ad.a_f_resends_base) = true
  g_f_resends_base : mg "resends_base" = some (.ref ad.a_f_resends_base)
  f_f_gain_of : L2.Fun K "gain_of" "gain_of" s_f_gain_of ad.a_f_gain_of ad.d_f_gain_of
  b_f_gain_of : Binds K ad.d_f_gain_of ["rule", "channel"] []
  k_f_gain_of : PySem.W.keepIn K (.ref ad.a_f_gain_of) = true
  g_f_gain_of : mg "gain_of" = some (.ref ad.a_f_gain_of)
  f_f_growth : L2.Fun K "growth" "growth" s_f_growth ad.a_f_growth ad.d_f_growth
  b_f_growth : Binds K ad.d_f_growth ["rule", "channel"] []
  k_f_growth : PySem.W.keepIn K (.ref ad.a_f_growth) = true
  g_f_growth : mg "growth" = some (.ref ad.a_f_growth)
  f_f_reach_of : L2.Fun K "reach_of" "reach_of" s_f_reach_of ad.a_f_reach_of ad.d_f_reach_of
  b_f_reach_of : Binds K ad.d_f_reach_of ["rule"] []
  k_f_reach_of : PySem.W.keepIn K (.ref ad.a_f_reach_of) = true
  g_f_reach_of : mg "reach_of" = some (.ref ad.a_f_reach_of)
  f_f_least_by_formula : L2.Fun K "least_by_formula" "least_by_formula" s_f_least_by_formula ad.a_f_least_by_formula ad.d_f_least_by_formula
  b_f_least_by_formula : Binds K ad.d_f_least_by_formula ["rule", "channel"] []
  k_f_least_by_formula : PySem.W.keepIn K (.ref ad.a_f_least_by_formula) = true
  g_f_least_by_formula : mg "least_by_formula" = some (.ref ad.a_f_least_by_formula)
  f_f_Channel_init : L2.Fun K "__init__" "Channel.__init__" s_f_Channel_init ad.a_f_Channel_init ad.d_f_Channel_init
  b_f_Channel_init : Binds K ad.d_f_Channel_init ["self", "k", "j"] []
  k_f_Channel_init : PySem.W.keepIn K (.ref ad.a_f_Channel_init) = true
  f_f_lag : L2.Fun K "lag" "lag" s_f_lag ad.a_f_lag ad.d_f_lag
  b_f_lag : Binds K ad.d_f_lag ["lifetime"] []
  k_f_lag : PySem.W.keepIn K (.ref ad.a_f_lag) = true
  g_f_lag : mg "lag" = some (.ref ad.a_f_lag)
  f_f_lifetime_channel : L2.Fun K "lifetime_channel" "lifetime_channel" s_f_lifetime_channel ad.a_f_lifetime_channel ad.d_f_lifetime_channel
  b_f_lifetime_channel : Binds K ad.d_f_lifetime_channel ["lifetime", "j"] []
  k_f_lifetime_channel : PySem.W.keepIn K (.ref ad.a_f_lifetime_channel) = true
  g_f_lifetime_channel : mg "lifetime_channel" = some (.ref ad.a_f_lifetime_channel)
  f_f_least_for_lifetime : L2.Fun K "least_for_lifetime" "least_for_lifetime" s_f_least_for_lifetime ad.a_f_least_for_lifetime ad.d_f_least_for_lifetime
  b_f_least_for_lifetime : Binds K ad.d_f_least_for_lifetime ["rule", "lifetime", "j"] []
  k_f_least_for_lifetime : PySem.W.keepIn K (.ref ad.a_f_least_for_lifetime) = true
  g_f_least_for_lifetime : mg "least_for_lifetime" = some (.ref ad.a_f_least_for_lifetime)
  f_f_check_numbers : L2.Fun K "check_numbers" "check_numbers" s_f_check_numbers ad.a_f_check_numbers ad.d_f_check_numbers
  b_f_check_numbers : Binds K ad.d_f_check_numbers ["numbers"] []
  k_f_check_numbers : PySem.W.keepIn K (.ref ad.a_f_check_numbers) = true
  g_f_check_numbers : mg "check_numbers" = some (.ref ad.a_f_check_numbers)
  f_f_longest_lifetime : L2.Fun K "longest_lifetime" "longest_lifetime" s_f_longest_lifetime ad.a_f_longest_lifetime ad.d_f_longest_lifetime
  b_f_longest_lifetime : Binds K ad.d_f_longest_lifetime ["rule", "rate", "j", "numbers"] []
  k_f_longest_lifetime : PySem.W.keepIn K (.ref ad.a_f_longest_lifetime) = true
  g_f_longest_lifetime : mg "longest_lifetime" = some (.ref ad.a_f_longest_lifetime)
  f_f_law_side : L2.Fun K "_law_side" "_law_side" s_f_law_side ad.a_f_law_side ad.d_f_law_side
  b_f_law_side : Binds K ad.d_f_law_side ["size", "drawn", "ticks", "rate", "j", "numbers", "fits"] []
  k_f_law_side : PySem.W.keepIn K (.ref ad.a_f_law_side) = true
  g_f_law_side : mg "_law_side" = some (.ref ad.a_f_law_side)
  f_f_law_window : L2.Fun K "_law_window" "_law_window" s_f_law_window ad.a_f_law_window ad.d_f_law_window
  b_f_law_window : Binds K ad.d_f_law_window ["room", "group", "kind", "again", "k", "j", "numbers"] []
  k_f_law_window : PySem.W.keepIn K (.ref ad.a_f_law_window) = true
  g_f_law_window : mg "_law_window" = some (.ref ad.a_f_law_window)
  f_f_largest_window : L2.Fun K "largest_window" "largest_window" s_f_largest_window ad.a_f_largest_window ad.d_f_largest_window
  k_f_largest_window : PySem.W.keepIn K (.ref ad.a_f_largest_window) = true
  g_f_largest_window : mg "largest_window" = some (.ref ad.a_f_largest_window)
  f_f_law : L2.Fun K "law" "law" s_f_law ad.a_f_law ad.d_f_law
  b_f_law : Binds K ad.d_f_law ["script"] []
  k_f_law : PySem.W.keepIn K (.ref ad.a_f_law) = true
  g_f_law : mg "law" = some (.ref ad.a_f_law)
  cls_Rule : Cls K ad.c_Rule
  g_Rule : mg "Rule" = some (.ref ad.c_Rule)
  mk_Rule : Mk K ad.c_Rule ad.a_f_Rule_init
  ins_Rule : C8.InsC K ad.c_Rule
  kc_Rule_Channel : KitC K ad.c_Rule ad.c_Channel false
  kc_Rule_Lifetime : KitC K ad.c_Rule ad.c_Lifetime false
  na_Rule_w : NoAttr K ad.c_Rule "w"
  na_Rule_r : NoAttr K ad.c_Rule "r"
  na_Rule_acks : NoAttr K ad.c_Rule "acks"
  na_Rule_resend : NoAttr K ad.c_Rule "resend"
  na_Rule_group : NoAttr K ad.c_Rule "group"
  cls_Channel : Cls K ad.c_Channel
  g_Channel : mg "Channel" = some (.ref ad.c_Channel)
  mk_Channel : Mk K ad.c_Channel ad.a_f_Channel_init
  ins_Channel : C8.InsC K ad.c_Channel
  kc_Channel_Lifetime : KitC K ad.c_Channel ad.c_Lifetime false
  na_Channel_k : NoAttr K ad.c_Channel "k"
  na_Channel_j : NoAttr K ad.c_Channel "j"
  cls_Lifetime : Cls K ad.c_Lifetime
  g_Lifetime : mg "Lifetime" = some (.ref ad.c_Lifetime)
  mk_Lifetime : Mk K ad.c_Lifetime ad.a_f_Lifetime_init
  cr_Lifetime : ClX.CRead K ad.c_Lifetime (.type "type")
  cv_Lifetime_MOST_TICKS : ∃ u, ClX.CVal K ad.c_Lifetime (.type "type") "MOST_TICKS" (valD (.int 1000)) u
  ins_Lifetime : C8.InsC K ad.c_Lifetime
  kc_Lifetime_Channel : KitC K ad.c_Lifetime ad.c_Channel false
  na_Lifetime_ticks : NoAttr K ad.c_Lifetime "ticks"
  na_Lifetime_rate : NoAttr K ad.c_Lifetime "rate"
  g_BadRule : mg "BadRule" = some (.ref ad.c_BadRule)
  xo_BadRule : OexC K ad.c_BadRule
  xn_BadRule : PySem.W.findIn K (.ref ad.c_BadRule) "__init__" = some (some (.ref ad.xi_BadRule))
  xt_BadRule : PySem.W.typeIn K (.ref ad.xi_BadRule) = some (.type "function")
  xb_BadRule : Binds K ad.xd_BadRule ["self", "place"] []
  xf_BadRule : XfC K ad.c_BadRule
  xe_BadRule : EcC K ad.c_BadRule
  xa_BadRule_place : PySem.W.findIn K (.ref ad.c_BadRule) "place" = some none
  xv_BadRule : PySem.W.subIn K (.ref ad.c_BadRule) (.type "ValueError") = some true
  g_BadChannel : mg "BadChannel" = some (.ref ad.c_BadChannel)
  xo_BadChannel : OexC K ad.c_BadChannel
  xn_BadChannel : PySem.W.findIn K (.ref ad.c_BadChannel) "__init__" = some (some (.ref ad.xi_BadChannel))
  xt_BadChannel : PySem.W.typeIn K (.ref ad.xi_BadChannel) = some (.type "function")
  xb_BadChannel : Binds K ad.xd_BadChannel ["self", "place"] []
  xf_BadChannel : XfC K ad.c_BadChannel
  xe_BadChannel : EcC K ad.c_BadChannel
  xa_BadChannel_place : PySem.W.findIn K (.ref ad.c_BadChannel) "place" = some none
  xv_BadChannel : PySem.W.subIn K (.ref ad.c_BadChannel) (.type "ValueError") = some true
  g_BadNumbers : mg "BadNumbers" = some (.ref ad.c_BadNumbers)
  xo_BadNumbers : OexC K ad.c_BadNumbers
  xn_BadNumbers : PySem.W.findIn K (.ref ad.c_BadNumbers) "__init__" = some (some (.ref ad.xi_BadNumbers))
  xt_BadNumbers : PySem.W.typeIn K (.ref ad.xi_BadNumbers) = some (.type "function")
  xb_BadNumbers : Binds K ad.xd_BadNumbers ["self", "numbers"] []
  xf_BadNumbers : XfC K ad.c_BadNumbers
  xe_BadNumbers : EcC K ad.c_BadNumbers
  xa_BadNumbers_numbers : PySem.W.findIn K (.ref ad.c_BadNumbers) "numbers" = some none
  xv_BadNumbers : PySem.W.subIn K (.ref ad.c_BadNumbers) (.type "ValueError") = some true
  g_BadLifetime : mg "BadLifetime" = some (.ref ad.c_BadLifetime)
  xo_BadLifetime : OexC K ad.c_BadLifetime
  xn_BadLifetime : PySem.W.findIn K (.ref ad.c_BadLifetime) "__init__" = some (some (.ref ad.xi_BadLifetime))
  xt_BadLifetime : PySem.W.typeIn K (.ref ad.xi_BadLifetime) = some (.type "function")
  xb_BadLifetime : Binds K ad.xd_BadLifetime ["self", "place"] []
  xf_BadLifetime : XfC K ad.c_BadLifetime
  xe_BadLifetime : EcC K ad.c_BadLifetime
  xa_BadLifetime_place : PySem.W.findIn K (.ref ad.c_BadLifetime) "place" = some none
  xv_BadLifetime : PySem.W.subIn K (.ref ad.c_BadLifetime) (.type "ValueError") = some true
  kb_f_largest_window_2_r_acks_resend : ∃ g, KBn K ad.d_f_largest_window ["channel", "numbers", "r", "acks", "resend"] 2 ["r", "acks", "resend"] g (fun vs zs => vs ++ selV zs (selOf [] [.inl 0, .inl 1, .inl 2]))
  g_abs : mg "abs" = none
  g_bool : mg "bool" = none
  con_MOST_NUMBERS : ∃ u, mg "MOST_NUMBERS" = some u ∧ RelV (.int 2000000) u
  con_MOST_SIZE : ∃ u, mg "MOST_SIZE" = some u ∧ RelV (.int 1000) u
  g_int : mg "int" = none
  g_isinstance : mg "isinstance" = none
  g_len : mg "len" = none
  g_list : mg "list" = none
  g_max : mg "max" = none
  g_min : mg "min" = none
  g_range : mg "range" = none
  g_str : mg "str" = none
  g_tuple : mg "tuple" = none
section
variable {P : Program} {w : World} {K : PySem.W.Frag} {mg : Str → Option Value} {base : Heap} {ad : Ad}
theorem is_bool (T : Tx K mg ad) : IsOk K (clT ad) (fun t b => PySem.W.kitOne K t (.type "bool") = some b) tb_is_bool := is_all (all_cons (kit_ty (by decide +kernel)) (all_cons (kit_ty (by decide +kernel)) (all_cons (kit_ty (by decide +kernel)) (all_cons (kit_ty (by decide +kernel)) (all_cons (kit_ty (by decide +kernel)) (all_cons (kit_ty (by decide +kernel)) (all_cons (kit_ty (by decide +kernel)) all_nil))))))) all_nil
theorem is_int (T : Tx K mg ad) : IsOk K (clT ad) (fun t b => PySem.W.kitOne K t (.type "int") = some b) tb_is_int := is_all (all_cons (kit_ty (by decide +kernel)) (all_cons (kit_ty (by decide +kernel)) (all_cons (kit_ty (by decide +kernel)) (all_cons (kit_ty (by decide +kernel)) (all_cons (kit_ty (by decide +kernel)) (all_cons (kit_ty (by decide +kernel)) (all_cons (kit_ty (by decide +kernel)) all_nil))))))) all_nil
theorem is_str (T : Tx K mg ad) : IsOk K (clT ad) (fun t b => PySem.W.kitOne K t (.type "str") = some b) tb_is_str := is_all (all_cons (kit_ty (by decide +kernel)) (all_cons (kit_ty (by decide +kernel)) (all_cons (kit_ty (by decide +kernel)) (all_cons (kit_ty (by decide +kernel)) (all_cons (kit_ty (by decide +kernel)) (all_cons (kit_ty (by decide +kernel)) (all_cons (kit_ty (by decide +kernel)) all_nil))))))) all_nil
theorem is_str_int_t (T : Tx K mg ad) : IsOk K (clT ad) (fun t b => PySem.W.kitAny K t [.type "str", .type "int"] = some b) tb_is_str_int_t := is_all (all_cons (kitBs_ok (bs := ["str", "int"]) (by decide +kernel)) (all_cons (kitBs_ok (bs := ["str", "int"]) (by decide +kernel)) (all_cons (kitBs_ok (bs := ["str", "int"]) (by decide +kernel)) (all_cons (kitBs_ok (bs := ["str", "int"]) (by decide +kernel)) (all_cons (kitBs_ok (bs := ["str", "int"]) (by decide +kernel)) (all_cons (kitBs_ok (bs := ["str", "int"]) (by decide +kernel)) (all_cons (kitBs_ok (bs := ["str", "int"]) (by decide +kernel)) all_nil))))))) all_nil
theorem is_tuple (T : Tx K mg ad) : IsOk K (clT ad) (fun t b => PySem.W.kitOne K t (.type "tuple") = some b) tb_is_tuple := is_all (all_cons (kit_ty (by decide +kernel)) (all_cons (kit_ty (by decide +kernel)) (all_cons (kit_ty (by decide +kernel)) (all_cons (kit_ty (by decide +kernel)) (all_cons (kit_ty (by decide +kernel)) (all_cons (kit_ty (by decide +kernel)) (all_cons (kit_ty (by decide +kernel)) all_nil))))))) all_nil
theorem is_list (T : Tx K mg ad) : IsOk K (clT ad) (fun t b => PySem.W.kitOne K t (.type "list") = some b) tb_is_list := is_all (all_cons (kit_ty (by decide +kernel)) (all_cons (kit_ty (by decide +kernel)) (all_cons (kit_ty (by decide +kernel)) (all_cons (kit_ty (by decide +kernel)) (all_cons (kit_ty (by decide +kernel)) (all_cons (kit_ty (by decide +kernel)) (all_cons (kit_ty (by decide +kernel)) all_nil))))))) all_nil
theorem is_list_tuple_t (T : Tx K mg ad) : IsOk K (clT ad) (fun t b => PySem.W.kitAny K t [.type "list", .type "tuple"] = some b) tb_is_list_tuple_t := is_all (all_cons (kitBs_ok (bs := ["list", "tuple"]) (by decide +kernel)) (all_cons (kitBs_ok (bs := ["list", "tuple"]) (by decide +kernel)) (all_cons (kitBs_ok (bs := ["list", "tuple"]) (by decide +kernel)) (all_cons (kitBs_ok (bs := ["list", "tuple"]) (by decide +kernel)) (all_cons (kitBs_ok (bs := ["list", "tuple"]) (by decide +kernel)) (all_cons (kitBs_ok (bs := ["list", "tuple"]) (by decide +kernel)) (all_cons (kitBs_ok (bs := ["list", "tuple"]) (by decide +kernel)) all_nil))))))) all_nil
theorem isc_Channel (T : Tx K mg ad) : IsOk K (clT ad) (fun t b => PySem.W.kitOne K t (.ref ad.c_Channel) = some b) tb_isc_Channel := ⟨all_nil, (all_cons (fun C e => by cases e; exact ⟨T.ins_Rule, T.kc_Rule_Channel.ok⟩) (all_cons (fun C e => by cases e; exact ⟨T.ins_Channel, kit_same⟩) (all_cons (fun C e => by cases e; exact ⟨T.ins_Lifetime, T.kc_Lifetime_Channel.ok⟩) all_nil)))⟩
theorem isc_Lifetime (T : Tx K mg ad) : IsOk K (clT ad) (fun t b => PySem.W.kitOne K t (.ref ad.c_Lifetime) = some b) tb_isc_Lifetime := ⟨all_nil, (all_cons (fun C e => by cases e; exact ⟨T.ins_Rule, T.kc_Rule_Lifetime.ok⟩) (all_cons (fun C e => by cases e; exact ⟨T.ins_Channel, T.kc_Channel_Lifetime.ok⟩) (all_cons (fun C e => by cases e; exact ⟨T.ins_Lifetime, kit_same⟩) all_nil)))⟩
theorem at_j (T : Tx K mg ad) : AtOk K (clT ad) [(1, 1)] "j" := (at_cons (q := 1) (j := 1) rfl T.cls_Channel T.na_Channel_j rfl (show (["k", "j"] : List Str).Nodup by decide +kernel) at_nil)
theorem at_k (T : Tx K mg ad) : AtOk K (clT ad) [(1, 0)] "k" := (at_cons (q := 1) (j := 0) rfl T.cls_Channel T.na_Channel_k rfl (show (["k", "j"] : List Str).Nodup by decide +kernel) at_nil)
theorem at_resend (T : Tx K mg ad) : AtOk K (clT ad) [(0, 3)] "resend" := (at_cons (q := 0) (j := 3) rfl T.cls_Rule T.na_Rule_resend rfl (show (["w", "r", "acks", "resend", "group"] : List Str).Nodup by decide +kernel) at_nil)
theorem at_acks (T : Tx K mg ad) : AtOk K (clT ad) [(0, 2)] "acks" := (at_cons (q := 0) (j := 2) rfl T.cls_Rule T.na_Rule_acks rfl (show (["w", "r", "acks", "resend", "group"] : List Str).Nodup by decide +kernel) at_nil)
theorem at_r (T : Tx K mg ad) : AtOk K (clT ad) [(0, 1)] "r" := (at_cons (q := 0) (j := 1) rfl T.cls_Rule T.na_Rule_r rfl (show (["w", "r", "acks", "resend", "group"] : List Str).Nodup by decide +kernel) at_nil)
theorem at_w (T : Tx K mg ad) : AtOk K (clT ad) [(0, 0)] "w" := (at_cons (q := 0) (j := 0) rfl T.cls_Rule T.na_Rule_w rfl (show (["w", "r", "acks", "resend", "group"] : List Str).Nodup by decide +kernel) at_nil)
theorem at_group (T : Tx K mg ad) : AtOk K (clT ad) [(0, 4)] "group" := (at_cons (q := 0) (j := 4) rfl T.cls_Rule T.na_Rule_group rfl (show (["w", "r", "acks", "resend", "group"] : List Str).Nodup by decide +kernel) at_nil)
theorem at_rate (T : Tx K mg ad) : AtOk K (clT ad) [(2, 1)] "rate" := (at_cons (q := 2) (j := 1) rfl T.cls_Lifetime T.na_Lifetime_rate rfl (show (["ticks", "rate"] : List Str).Nodup by decide +kernel) at_nil)
theorem at_ticks (T : Tx K mg ad) : AtOk K (clT ad) [(2, 0)] "ticks" := (at_cons (q := 2) (j := 0) rfl T.cls_Lifetime T.na_Lifetime_ticks rfl (show (["ticks", "rate"] : List Str).Nodup by decide +kernel) at_nil)
/-! ### the defs -/
theorem sc_f_Channel_fields : FnScope (["self"] : List Str) ["self"] (defScope s_f_Channel_fields) := ⟨rfl, rfl, rfl, by decide +kernel, rfl, by decide +kernel, by decide +kernel⟩
theorem ok_f_Channel_fields (T : Tx K mg ad) : FnOk P w K mg base (L2.CX P w) 1 ad.a_f_Channel_fields ad.d_f_Channel_fields ["self"] (spM K (clT ad) [true] 1 F_f_Channel_fields) := by
  have nd : (["self"] : List Str).Nodup := sc_f_Channel_fields.nd
  exact fn_ok (N := ["self"]) (nl := 0) (m := B_f_Channel_fields) T.f_f_Channel_fields sc_f_Channel_fields rfl rfl (by decide) fun cdv A outer s H E e hr => (ss_one (s_ret (m_tup (a_cons (m_atW 0 (at_k T) rfl (by first | exact Or.inl rfl | exact Or.inr (Or.inl rfl) | exact Or.inr (Or.inr rfl))) (a_cons (m_atW 0 (at_j T) rfl (by first | exact Or.inl rfl | exact Or.inr (Or.inl rfl) | exact Or.inr (Or.inr rfl))) a_nil)))))
theorem sc_f_Lifetime_init : FnScope (["self", "ticks", "rate"] : List Str) ["self", "ticks", "rate"] (defScope s_f_Lifetime_init) := ⟨rfl, rfl, rfl, by decide +kernel, rfl, by decide +kernel, by decide +kernel⟩
theorem ok_f_Lifetime_init (T : Tx K mg ad) (GX_BadLifetime : FnOk P w K mg base (L2.CX P w) 1 ad.xi_BadLifetime ad.xd_BadLifetime ["self", "place"] (spX K ad.c_BadLifetime ["place"])) : FnOk P w K mg base (L2.CX P w) 3 ad.a_f_Lifetime_init ad.d_f_Lifetime_init ["self", "ticks", "rate"] (spM K (clT ad) [true, false, false] 3 F_f_Lifetime_init) := by
  have nd : (["self", "ticks", "rate"] : List Str).Nodup := sc_f_Lifetime_init.nd
  exact fn_ok (N := ["self", "ticks", "rate"]) (nl := 0) (m := B_f_Lifetime_init) T.f_f_Lifetime_init sc_f_Lifetime_init rfl rfl (by decide) fun cdv A outer s H E e hr => (ss_cons (s_if (t_not (t_chain op_le mI_le op_le mI_le m_int (m_var 1) (m_cval rfl T.g_Lifetime T.cr_Lifetime T.cv_Lifetime_MOST_TICKS rfl)))
 (ss_one (s_raise (q := 104) (fs := ["place"]) rfl (takes_of rfl rfl rfl rfl) T.xo_BadLifetime T.xn_BadLifetime T.xt_BadLifetime GX_BadLifetime (hr.mono (by decide)) T.xb_BadLifetime passL rfl T.g_BadLifetime rfl rfl (by decide) (a_cons m_str a_nil)))
 ss_nil)
 (ss_cons (s_if (t_not (t_chain op_le mI_le op_le mI_le m_int (m_var 2) (m_cval rfl T.g_Lifetime T.cr_Lifetime T.cv_Lifetime_MOST_TICKS rfl)))
 (ss_one (s_raise (q := 104) (fs := ["place"]) rfl (takes_of rfl rfl rfl rfl) T.xo_BadLifetime T.xn_BadLifetime T.xt_BadLifetime GX_BadLifetime (hr.mono (by decide)) T.xb_BadLifetime passL rfl T.g_BadLifetime rfl rfl (by decide) (a_cons m_str a_nil)))
 ss_nil)
 (ss_cons (s_at 0 2 0 ⟨of_ad (Q := fun C => Cls K C ∧ NoAttr K C "ticks") rfl ⟨T.cls_Lifetime, T.na_Lifetime_ticks⟩, rfl, (show (["ticks", "rate"] : List Str).Nodup by decide +kernel)⟩ rfl (by first | exact Or.inl rfl | exact Or.inr (Or.inl rfl) | exact Or.inr (Or.inr rfl)) (m_var 1))
 (ss_one (s_at 0 2 1 ⟨of_ad (Q := fun C => Cls K C ∧ NoAttr K C "rate") rfl ⟨T.cls_Lifetime, T.na_Lifetime_rate⟩, rfl, (show (["ticks", "rate"] : List Str).Nodup by decide +kernel)⟩ rfl (by first | exact Or.inl rfl | exact Or.inr (Or.inl rfl) | exact Or.inr (Or.inr rfl)) (m_var 2))))))
theorem sc_f_Rule_fields : FnScope (["self"] : List Str) ["self"] (defScope s_f_Rule_fields) := ⟨rfl, rfl, rfl, by decide +kernel, rfl, by decide +kernel, by decide +kernel⟩
theorem ok_f_Rule_fields (T : Tx K mg ad) : FnOk P w K mg base (L2.CX P w) 1 ad.a_f_Rule_fields ad.d_f_Rule_fields ["self"] (spM K (clT ad) [true] 1 F_f_Rule_fields) := by
  have nd : (["self"] : List Str).Nodup := sc_f_Rule_fields.nd
  exact fn_ok (N := ["self"]) (nl := 0) (m := B_f_Rule_fields) T.f_f_Rule_fields sc_f_Rule_fields rfl rfl (by decide) fun cdv A outer s H E e hr => (ss_one (s_ret (m_tup (a_cons (m_atW 0 (at_w T) rfl (by first | exact Or.inl rfl | exact Or.inr (Or.inl rfl) | exact Or.inr (Or.inr rfl))) (a_cons (m_atW 0 (at_r T) rfl (by first | exact Or.inl rfl | exact Or.inr (Or.inl rfl) | exact Or.inr (Or.inr rfl))) (a_cons (m_atW 0 (at_acks T) rfl (by first | exact Or.inl rfl | exact Or.inr (Or.inl rfl) | exact Or.inr (Or.inr rfl))) (a_cons (m_atW 0 (at_resend T) rfl (by first | exact Or.inl rfl | exact Or.inr (Or.inl rfl) | exact Or.inr (Or.inr rfl))) a_nil)))))))
theorem sc_f_law_least : FnScope (["w", "room", "group", "backs", "again", "k", "j", "small", "far", "growth_v"] : List Str) ["w", "room", "group", "backs", "again", "k", "j"] (defScope s_f_law_least) := ⟨rfl, rfl, rfl, by decide +kernel, rfl, by decide +kernel, by decide +kernel⟩
theorem ok_f_law_least (T : Tx K mg ad) : FnOk P w K mg base (L2.CX P w) 1 ad.a_f_law_least ad.d_f_law_least ["w", "room", "group", "backs", "again", "k", "j"] (spM K (clT ad) [false, false, false, false, false, false, false] 7 F_f_law_least) := by
  have nd : (["w", "room", "group", "backs", "again", "k", "j", "small", "far", "growth_v"] : List Str).Nodup := sc_f_law_least.nd
  exact fn_ok (N := ["w", "room", "group", "backs", "again", "k", "j", "small", "far", "growth_v"]) (nl := 3) (m := B_f_law_least) T.f_f_law_least sc_f_law_least rfl rfl (by decide) fun cdv A outer s H E e hr => (ss_cons (s_set 7 nd rfl (by first | exact Or.inl rfl | exact Or.inr rfl | exact Or.inr (Or.inl rfl)) rfl (m_callB (op := minB) (call_min2 rfl) mB_min rfl T.g_min bt_min (a_take 1 rfl (by first | exact Or.inl rfl | exact Or.inr (Or.inl rfl) | exact Or.inr (Or.inr rfl)) (a_take 0 rfl (by first | exact Or.inl rfl | exact Or.inr (Or.inl rfl) | exact Or.inr (Or.inr rfl)) a_nil))))
 (ss_cons (s_set 8 nd rfl (by first | exact Or.inl rfl | exact Or.inr rfl | exact Or.inr (Or.inl rfl)) rfl (m_var 0))
 (ss_cons (s_if (PW.pt (w_or (t_cmp (op_eqP (hu64 hr)) mI_eq (m_var 4) m_str (nomark _)) (w_or1 (PW.pt (w_and (t_cmp (op_eqP (hu64 hr)) mI_eq (m_var 4) m_str (nomark _)) (w_and1 (t_cmp op_gt mI_gt (m_var 0) m_int (nomark _))))))))
 (ss_cons (s_set 7 nd rfl (by first | exact Or.inl rfl | exact Or.inr rfl | exact Or.inr (Or.inl rfl)) rfl (m_callB (op := minB) (call_min2 rfl) mB_min rfl T.g_min bt_min (a_take 7 rfl (by first | exact Or.inl rfl | exact Or.inr (Or.inl rfl) | exact Or.inr (Or.inr rfl)) (a_cons (m_op op_addA mI_addA (m_var 5) m_int) a_nil))))
 (ss_one (s_set 8 nd rfl (by first | exact Or.inl rfl | exact Or.inr rfl | exact Or.inr (Or.inl rfl)) rfl m_int)))
 ss_nil)
 (ss_cons (s_set 9 nd rfl (by first | exact Or.inl rfl | exact Or.inr rfl | exact Or.inr (Or.inl rfl)) rfl m_int)
 (ss_cons (s_if (PW.pt (w_and (t_cmp op_gt mI_gt (m_var 6) m_int (nomark _)) (w_and1 (t_cmp op_gt mI_gt (m_var 2) m_int (nomark _)))))
 (ss_one (s_set 9 nd rfl (by first | exact Or.inl rfl | exact Or.inr rfl | exact Or.inr (Or.inl rfl)) rfl (m_op op_addA mI_addA (m_callB (op := minB) (call_min2 rfl) mB_min rfl T.g_min bt_min (a_cons (m_op op_addA mI_addA (m_op op_sub mI_sub (m_var 7) m_int) (m_var 2)) (a_take 0 rfl (by first | exact Or.inl rfl | exact Or.inr (Or.inl rfl) | exact Or.inr (Or.inr rfl)) a_nil))) (m_op op_mul mI_mul (m_op op_sub mI_sub (m_var 6) m_int) (m_callB (op := minB) (call_min2 rfl) mB_min rfl T.g_min bt_min (a_take 2 rfl (by first | exact Or.inl rfl | exact Or.inr (Or.inl rfl) | exact Or.inr (Or.inr rfl)) (a_take 0 rfl (by first | exact Or.inl rfl | exact Or.inr (Or.inl rfl) | exact Or.inr (Or.inr rfl)) a_nil)))))))
 (ss_one (s_if (t_cmp (op_eqP (hu64 hr)) mI_eq (m_var 3) m_str (nomark _))
 (ss_one (s_set 9 nd rfl (by first | exact Or.inl rfl | exact Or.inr rfl | exact Or.inr (Or.inl rfl)) rfl (m_op op_mul mI_mul (m_var 6) (m_var 0))))
 (ss_one (s_if (t_cmp (op_eqP (hu64 hr)) mI_eq (m_var 2) m_int (nomark _))
 (ss_one (s_set 9 nd rfl (by first | exact Or.inl rfl | exact Or.inr rfl | exact Or.inr (Or.inl rfl)) rfl (m_op op_mul mI_mul (m_var 6) (m_var 7))))
 ss_nil)))))
 (ss_one (s_ret (m_callB (op := maxB) (call_max2 rfl) mB_max rfl T.g_max bt_max (a_cons (m_op op_addA mI_addA (m_op op_addA mI_addA (m_var 8) (m_var 1)) (m_var 5)) (a_cons (m_op op_addA mI_addA (m_op op_addA mI_addA (m_var 0) m_int) (m_var 9)) a_nil))))))))))
theorem sc_f_law_life_drawn : FnScope (["row", "rate", "most", "ticks"] : List Str) ["row"] (defScope s_f_law_life_drawn) := ⟨rfl, rfl, rfl, by decide +kernel, rfl, by decide +kernel, by decide +kernel⟩
theorem ok_f_law_life_drawn (T : Tx K mg ad) : FnOk P w K mg base (L2.CX P w) 1 ad.a_f_law_life_drawn ad.d_f_law_life_drawn ["row"] (spM K (clT ad) [false] 1 F_f_law_life_drawn) := by
  have nd : (["row", "rate", "most", "ticks"] : List Str).Nodup := sc_f_law_life_drawn.nd
  exact fn_ok (N := ["row", "rate", "most", "ticks"]) (nl := 3) (m := B_f_law_life_drawn) T.f_f_law_life_drawn sc_f_law_life_drawn rfl rfl (by decide) fun cdv A outer s H E e hr => (ss_cons (s_set 1 nd rfl (by first | exact Or.inl rfl | exact Or.inr rfl | exact Or.inr (Or.inl rfl)) rfl (m_op op_addA mI_addA m_int (m_op op_mod mI_mod (m_ixW 0 rfl (by first | exact Or.inl rfl | exact Or.inr (Or.inl rfl) | exact Or.inr (Or.inr rfl)) m_int (fun _ _ => rfl)) m_int)))
 (ss_cons (s_if (t_cmp (op_eqP (hu64 hr)) mI_eq (m_op op_mod mI_mod (m_ixW 0 rfl (by first | exact Or.inl rfl | exact Or.inr (Or.inl rfl) | exact Or.inr (Or.inr rfl)) m_int (fun _ _ => rfl)) m_int) m_int (nomark _))
 (ss_one (s_set 1 nd rfl (by first | exact Or.inl rfl | exact Or.inr rfl | exact Or.inr (Or.inl rfl)) rfl (m_op op_addA mI_addA m_int (m_op op_mod mI_mod (m_ixW 0 rfl (by first | exact Or.inl rfl | exact Or.inr (Or.inl rfl) | exact Or.inr (Or.inr rfl)) m_int (fun _ _ => rfl)) m_int))))
 ss_nil)
 (ss_cons (s_if (t_cmp (op_eqP (hu64 hr)) mI_eq (m_op op_mod mI_mod (m_ixW 0 rfl (by first | exact Or.inl rfl | exact Or.inr (Or.inl rfl) | exact Or.inr (Or.inr rfl)) m_int (fun _ _ => rfl)) m_int) m_int (nomark _))
 (ss_one (s_set 1 nd rfl (by first | exact Or.inl rfl | exact Or.inr rfl | exact Or.inr (Or.inl rfl)) rfl (m_ix (m_lst (k := 0) (a_cons m_int (a_cons m_int (a_cons m_int (a_cons m_int (a_cons m_int (a_cons m_int (a_cons m_int a_nil)))))))) (m_op op_mod mI_mod (m_ixW 0 rfl (by first | exact Or.inl rfl | exact Or.inr (Or.inl rfl) | exact Or.inr (Or.inr rfl)) m_int (fun _ _ => rfl)) m_int) (fun _ _ => rfl))))
 ss_nil)
 (ss_cons (s_set 2 nd rfl (by first | exact Or.inl rfl | exact Or.inr rfl | exact Or.inr (Or.inl rfl)) rfl (m_op op_sub mI_sub (m_op op_fdiv mI_div m_int (m_var 1)) m_int))
 (ss_cons (s_set 3 nd rfl (by first | exact Or.inl rfl | exact Or.inr rfl | exact Or.inr (Or.inl rfl)) rfl (m_op op_mod mI_mod (m_ixW 0 rfl (by first | exact Or.inl rfl | exact Or.inr (Or.inl rfl) | exact Or.inr (Or.inr rfl)) m_int (fun _ _ => rfl)) (m_op op_addA mI_addA (m_callB (op := minB) (call_min2 rfl) mB_min rfl T.g_min bt_min (a_take 2 rfl (by first | exact Or.inl rfl | exact Or.inr (Or.inl rfl) | exact Or.inr (Or.inr rfl)) (a_cons m_int a_nil))) m_int)))
 (ss_cons (s_if (t_cmp (op_eqP (hu64 hr)) mI_eq (m_op op_mod mI_mod (m_ixW 0 rfl (by first | exact Or.inl rfl | exact Or.inr (Or.inl rfl) | exact Or.inr (Or.inr rfl)) m_int (fun _ _ => rfl)) m_int) m_int (nomark _))
 (ss_one (s_set 3 nd rfl (by first | exact Or.inl rfl | exact Or.inr rfl | exact Or.inr (Or.inl rfl)) rfl (m_op op_mod mI_mod (m_ixW 0 rfl (by first | exact Or.inl rfl | exact Or.inr (Or.inl rfl) | exact Or.inr (Or.inr rfl)) m_int (fun _ _ => rfl)) (m_op op_addA mI_addA (m_var 2) m_int))))
 ss_nil)
 (ss_cons (s_if (t_cmp (op_eqP (hu64 hr)) mI_eq (m_op op_mod mI_mod (m_ixW 0 rfl (by first | exact Or.inl rfl | exact Or.inr (Or.inl rfl) | exact Or.inr (Or.inr rfl)) m_int (fun _ _ => rfl)) m_int) m_int (nomark _))
 (ss_one (s_set 3 nd rfl (by first | exact Or.inl rfl | exact Or.inr rfl | exact Or.inr (Or.inl rfl)) rfl (m_var 2)))
 ss_nil)
 (ss_one (s_ret (m_tup (a_cons (m_var 3) (a_cons (m_var 1) a_nil))))))))))))
theorem sc_f_law_like : FnScope (["told", "due", "n"] : List Str) ["told", "due"] (defScope s_f_law_like) := ⟨rfl, rfl, rfl, by decide +kernel, rfl, by decide +kernel, by decide +kernel⟩
theorem ok_f_law_like (T : Tx K mg ad) : ∀ n, FnOk P w K mg base (L2.CX P w) (0 + n) ad.a_f_law_like ad.d_f_law_like ["told", "due"] (spM K (clT ad) [false, false] 2 (R_f_law_like n))
  | 0 => fn_bad
  | n + 1 => by
    have G_f_law_like := ok_f_law_like T n
    have nd : (["told", "due", "n"] : List Str).Nodup := sc_f_law_like.nd
    exact fn_ok (N := ["told", "due", "n"]) (nl := 1) (m := B_f_law_like (R_f_law_like n)) T.f_f_law_like sc_f_law_like rfl rfl (by decide) fun cdv A outer s H E e hr => (ss_cons (s_if (t_isN (m_var 1))
 (ss_one (s_ret (m_isN (m_var 0))))
 ss_nil)
 (ss_cons (s_if (PW.pt (w_or (t_truth (m_isi (v := .ty "bool") (u := .type "bool") rfl T.g_isinstance (m_var 1) (pe_cls rfl (.inl ⟨T.g_bool, bt_bool, by decide⟩) rfl) (.ty _) (is_bool T))) (w_or1 (t_truth (m_isi (v := .ty "bool") (u := .type "bool") rfl T.g_isinstance (m_var 0) (pe_cls rfl (.inl ⟨T.g_bool, bt_bool, by decide⟩) rfl) (.ty _) (is_bool T))))))
 (ss_one (s_ret (m_and (m_isi (v := .ty "bool") (u := .type "bool") rfl T.g_isinstance (m_var 1) (pe_cls rfl (.inl ⟨T.g_bool, bt_bool, by decide⟩) rfl) (.ty _) (is_bool T)) (m_and (m_isi (v := .ty "bool") (u := .type "bool") rfl T.g_isinstance (m_var 0) (pe_cls rfl (.inl ⟨T.g_bool, bt_bool, by decide⟩) rfl) (.ty _) (is_bool T)) (m_one (m_cmp (op_eqP (hu64 hr)) mI_eq (m_var 0) (m_var 1) (nomark _)))))))
 ss_nil)
 (ss_cons (s_if (PW.pt (w_or (t_truth (m_isi (v := .ty "str") (u := .type "str") rfl T.g_isinstance (m_var 1) (pe_cls rfl (.inl ⟨T.g_str, bt_str, by decide⟩) rfl) (.ty _) (is_str T))) (w_or1 (t_truth (m_isi (v := .ty "int") (u := .type "int") rfl T.g_isinstance (m_var 1) (pe_cls rfl (.inl ⟨T.g_int, bt_int, by decide⟩) rfl) (.ty _) (is_int T))))))
 (ss_one (s_ret (m_and (m_cmp (op_eqP (hu64 hr)) mI_eq (m_isi (v := .ty "str") (u := .type "str") rfl T.g_isinstance (m_var 0) (pe_cls rfl (.inl ⟨T.g_str, bt_str, by decide⟩) rfl) (.ty _) (is_str T)) (m_isi (v := .ty "str") (u := .type "str") rfl T.g_isinstance (m_var 1) (pe_cls rfl (.inl ⟨T.g_str, bt_str, by decide⟩) rfl) (.ty _) (is_str T)) (nomark _)) (m_and (m_isiT rfl T.g_isinstance (m_var 0) (PCl.cons (pe_cls (u := .type "str") (v := .ty "str") rfl (.inl ⟨T.g_str, bt_str, by decide⟩) rfl) (.ty _) rfl (PCl.cons (pe_cls (u := .type "int") (v := .ty "int") rfl (.inl ⟨T.g_int, bt_int, by decide⟩) rfl) (.ty _) rfl PCl.nil)) (by decide) (is_str_int_t T)) (m_one (m_cmp (op_eqP (hu64 hr)) mI_eq (m_var 0) (m_var 1) (nomark _)))))))
 ss_nil)
 (ss_cons (s_if (PW.pt (w_or (t_cmp (op_neP (hu64 hr)) mI_ne (m_isi (v := .ty "list") (u := .type "list") rfl T.g_isinstance (m_var 1) (pe_cls rfl (.inl ⟨T.g_list, bt_list, by decide⟩) rfl) (.ty _) (is_list T)) (m_isi (v := .ty "list") (u := .type "list") rfl T.g_isinstance (m_var 0) (pe_cls rfl (.inl ⟨T.g_list, bt_list, by decide⟩) rfl) (.ty _) (is_list T)) (nomark _)) (w_or1 (t_cmp (op_neP (hu64 hr)) mI_ne (m_isi (v := .ty "tuple") (u := .type "tuple") rfl T.g_isinstance (m_var 1) (pe_cls rfl (.inl ⟨T.g_tuple, bt_tuple, by decide⟩) rfl) (.ty _) (is_tuple T)) (m_isi (v := .ty "tuple") (u := .type "tuple") rfl T.g_isinstance (m_var 0) (pe_cls rfl (.inl ⟨T.g_tuple, bt_tuple, by decide⟩) rfl) (.ty _) (is_tuple T)) (nomark _)))))
 (ss_one (s_ret m_bl))
 ss_nil)
 (ss_cons (s_if (PW.pt (w_or (t_not (t_truth (m_isiT rfl T.g_isinstance (m_var 0) (PCl.cons (pe_cls (u := .type "list") (v := .ty "list") rfl (.inl ⟨T.g_list, bt_list, by decide⟩) rfl) (.ty _) rfl (PCl.cons (pe_cls (u := .type "tuple") (v := .ty "tuple") rfl (.inl ⟨T.g_tuple, bt_tuple, by decide⟩) rfl) (.ty _) rfl PCl.nil)) (by decide) (is_list_tuple_t T)))) (w_or1 (t_cmp (op_neP (hu64 hr)) mI_ne (m_callB (op := lenB) call_len mB_len rfl T.g_len bt_len (a_take 0 rfl (by first | exact Or.inl rfl | exact Or.inr (Or.inl rfl) | exact Or.inr (Or.inr rfl)) a_nil)) (m_callB (op := lenB) call_len mB_len rfl T.g_len bt_len (a_take 1 rfl (by first | exact Or.inl rfl | exact Or.inr (Or.inl rfl) | exact Or.inr (Or.inr rfl)) a_nil)) (nomark _)))))
 (ss_one (s_ret m_bl))
 ss_nil)
 (ss_cons (s_for (passes_of rfl) rfl (i_range1 rfl T.g_range (a_cons (m_callB (op := lenB) call_len mB_len rfl T.g_len bt_len (a_take 1 rfl (by first | exact Or.inl rfl | exact Or.inr (Or.inl rfl) | exact Or.inr (Or.inr rfl)) a_nil)) a_nil)) (g_name 2 nd rfl (by first | exact Or.inl rfl | exact Or.inr rfl | exact Or.inr (Or.inl rfl)) rfl)
 (ss_one (s_if (t_not (t_truth (m_call (n := 2) (F := R_f_law_like n) G_f_law_like (hr.mono (by first | omega | (simp only [Nat.add_eq]; omega))) (takes_of rfl rfl rfl rfl) rfl T.g_f_law_like T.k_f_law_like T.b_f_law_like (a_cons (m_ixW 0 rfl (by first | exact Or.inl rfl | exact Or.inr (Or.inl rfl) | exact Or.inr (Or.inr rfl)) (m_var 2) (fun _ _ => rfl)) (a_cons (m_ixW 1 rfl (by first | exact Or.inl rfl | exact Or.inr (Or.inl rfl) | exact Or.inr (Or.inr rfl)) (m_var 2) (fun _ _ => rfl)) a_nil)) rfl)))
 (ss_one (s_ret m_bl))
 ss_nil)))
 (ss_one (s_ret m_bl))))))))
theorem sc_f_law_cell : FnScope (["script", "k"] : List Str) ["script", "k"] (defScope s_f_law_cell) := ⟨rfl, rfl, rfl, by decide +kernel, rfl, by decide +kernel, by decide +kernel⟩
theorem ok_f_law_cell (T : Tx K mg ad) : FnOk P w K mg base (L2.CX P w) 1 ad.a_f_law_cell ad.d_f_law_cell ["script", "k"] (spM K (clT ad) [false, false] 2 F_f_law_cell) := by
  have nd : (["script", "k"] : List Str).Nodup := sc_f_law_cell.nd
  exact fn_ok (N := ["script", "k"]) (nl := 0) (m := B_f_law_cell) T.f_f_law_cell sc_f_law_cell rfl rfl (by decide) fun cdv A outer s H E e hr => (ss_cons (s_if (t_cmp op_lt mI_lt (m_var 1) (m_callB (op := lenB) call_len mB_len rfl T.g_len bt_len (a_take 0 rfl (by first | exact Or.inl rfl | exact Or.inr (Or.inl rfl) | exact Or.inr (Or.inr rfl)) a_nil)) (nomark _))
 (ss_one (s_ret (m_ixW 0 rfl (by first | exact Or.inl rfl | exact Or.inr (Or.inl rfl) | exact Or.inr (Or.inr rfl)) (m_var 1) (fun _ _ => rfl))))
 ss_nil)
 (ss_one (s_ret m_int)))
theorem sc_f_law_mix : FnScope (["seed", "k", "one", "two"] : List Str) ["seed", "k"] (defScope s_f_law_mix) := ⟨rfl, rfl, rfl, by decide +kernel, rfl, by decide +kernel, by decide +kernel⟩
theorem ok_f_law_mix (T : Tx K mg ad) : FnOk P w K mg base (L2.CX P w) 1 ad.a_f_law_mix ad.d_f_law_mix ["seed", "k"] (spM K (clT ad) [false, false] 2 F_f_law_mix) := by
  have nd : (["seed", "k", "one", "two"] : List Str).Nodup := sc_f_law_mix.nd
  exact fn_ok (N := ["seed", "k", "one", "two"]) (nl := 2) (m := B_f_law_mix) T.f_f_law_mix sc_f_law_mix rfl rfl (by decide) fun cdv A outer s H E e hr => (ss_cons (s_set 2 nd rfl (by first | exact Or.inl rfl | exact Or.inr rfl | exact Or.inr (Or.inl rfl)) rfl (m_op op_mod mI_mod (m_callTy (op := intA) call_intA mB_intA rfl T.g_int bt_int (a_cons (m_op op_addA mI_addA (m_op op_mul mI_mul (m_callTy (op := intA) call_intA mB_intA rfl T.g_int bt_int (a_take 0 rfl (by first | exact Or.inl rfl | exact Or.inr (Or.inl rfl) | exact Or.inr (Or.inr rfl)) a_nil)) m_int) (m_op op_mul mI_mul (m_op op_addA mI_addA (m_var 1) m_int) m_int)) a_nil)) m_int))
 (ss_cons (s_set 3 nd rfl (by first | exact Or.inl rfl | exact Or.inr rfl | exact Or.inr (Or.inl rfl)) rfl (m_op op_mod mI_mod (m_callTy (op := intA) call_intA mB_intA rfl T.g_int bt_int (a_cons (m_op op_addA mI_addA (m_op op_mul mI_mul (m_var 2) (m_var 2)) (m_op op_mul mI_mul (m_op op_addA mI_addA (m_var 1) m_int) m_int)) a_nil)) m_int))
 (ss_one (s_ret (m_op op_fdiv mI_div (m_op op_mod mI_mod (m_callTy (op := intA) call_intA mB_intA rfl T.g_int bt_int (a_cons (m_op op_addA mI_addA (m_op op_mul mI_mul (m_var 3) (m_var 3)) (m_var 2)) a_nil)) m_int) m_int)))))
theorem sc_f_law_numbers : FnScope (["script", "at", "many", "row", "cell", "k"] : List Str) ["script", "at", "many"] (defScope s_f_law_numbers) := ⟨rfl, rfl, rfl, by decide +kernel, rfl, by decide +kernel, by decide +kernel⟩
theorem ok_f_law_numbers (T : Tx K mg ad) (G_f_law_cell : FnOk P w K mg base (L2.CX P w) 1 ad.a_f_law_cell ad.d_f_law_cell ["script", "k"] (spM K (clT ad) [false, false] 2 F_f_law_cell)) (G_f_law_mix : FnOk P w K mg base (L2.CX P w) 1 ad.a_f_law_mix ad.d_f_law_mix ["seed", "k"] (spM K (clT ad) [false, false] 2 F_f_law_mix)) : FnOk P w K mg base (L2.CX P w) 2 ad.a_f_law_numbers ad.d_f_law_numbers ["script", "at", "many"] (spM K (clT ad) [false, false, false] 3 F_f_law_numbers) := by
  have nd : (["script", "at", "many", "row", "cell", "k"] : List Str).Nodup := sc_f_law_numbers.nd
  exact fn_ok (N := ["script", "at", "many", "row", "cell", "k"]) (nl := 3) (m := B_f_law_numbers) T.f_f_law_numbers sc_f_law_numbers rfl rfl (by decide) fun cdv A outer s H E e hr => (ss_cons (s_set 3 nd rfl (by first | exact Or.inl rfl | exact Or.inr rfl | exact Or.inr (Or.inl rfl)) rfl (m_lst (k := 0) a_nil))
 (ss_cons (s_set 4 nd rfl (by first | exact Or.inl rfl | exact Or.inr rfl | exact Or.inr (Or.inl rfl)) rfl (m_callB (op := absB) call_abs mB_abs rfl T.g_abs bt_abs (a_cons (m_call (n := 2) (F := F_f_law_cell) G_f_law_cell (hr.mono (by decide)) (takes_of rfl rfl rfl rfl) rfl T.g_f_law_cell T.k_f_law_cell T.b_f_law_cell (a_cons (m_var 0) (a_cons (m_var 1) a_nil)) rfl) a_nil)))
 (ss_cons (s_if (t_cmp op_ge mI_ge (m_var 4) (m_op op_pow mI_pow m_int m_int) (nomark _))
 (ss_one (s_for (passes_of rfl) rfl (i_range1 rfl T.g_range (a_cons (m_var 2) a_nil)) (g_name 5 nd rfl (by first | exact Or.inl rfl | exact Or.inr rfl | exact Or.inr (Or.inl rfl)) rfl)
 (ss_one (s_if (t_cmp op_gt mI_gt (m_var 4) m_int (nomark _))
 (ss_cons (s_expr (m_append 3 rfl (by first | exact Or.inl rfl | exact Or.inr (Or.inl rfl) | exact Or.inr (Or.inr rfl)) (m_op op_mod mI_mod (m_callTy (op := intA) call_intA mB_intA rfl T.g_int bt_int (a_take 4 rfl (by first | exact Or.inl rfl | exact Or.inr (Or.inl rfl) | exact Or.inr (Or.inr rfl)) a_nil)) m_int)))
 (ss_one (s_set 4 nd rfl (by first | exact Or.inl rfl | exact Or.inr rfl | exact Or.inr (Or.inl rfl)) rfl (m_op op_fdiv mI_div (m_callTy (op := intA) call_intA mB_intA rfl T.g_int bt_int (a_take 4 rfl (by first | exact Or.inl rfl | exact Or.inr (Or.inl rfl) | exact Or.inr (Or.inr rfl)) a_nil)) m_int))))
 ss_nil))))
 ss_nil)
 (ss_cons (s_for (passes_of rfl) rfl (i_range2 rfl T.g_range (a_cons (m_callB (op := lenB) call_len mB_len rfl T.g_len bt_len (a_take 3 rfl (by first | exact Or.inl rfl | exact Or.inr (Or.inl rfl) | exact Or.inr (Or.inr rfl)) a_nil)) (a_cons (m_var 2) a_nil))) (g_name 5 nd rfl (by first | exact Or.inl rfl | exact Or.inr rfl | exact Or.inr (Or.inl rfl)) rfl)
 (ss_one (s_expr (m_append 3 rfl (by first | exact Or.inl rfl | exact Or.inr (Or.inl rfl) | exact Or.inr (Or.inr rfl)) (m_call (n := 2) (F := F_f_law_mix) G_f_law_mix (hr.mono (by decide)) (takes_of rfl rfl rfl rfl) rfl T.g_f_law_mix T.k_f_law_mix T.b_f_law_mix (a_cons (m_call (n := 2) (F := F_f_law_cell) G_f_law_cell (hr.mono (by decide)) (takes_of rfl rfl rfl rfl) rfl T.g_f_law_cell T.k_f_law_cell T.b_f_law_cell (a_cons (m_var 0) (a_cons (m_op op_mod mI_mod (m_op op_addA mI_addA (m_var 1) (m_var 5)) (m_callB (op := maxB) (call_max2 rfl) mB_max rfl T.g_max bt_max (a_cons m_int (a_cons (m_callB (op := lenB) call_len mB_len rfl T.g_len bt_len (a_take 0 rfl (by first | exact Or.inl rfl | exact Or.inr (Or.inl rfl) | exact Or.inr (Or.inr rfl)) a_nil)) a_nil)))) a_nil)) rfl) (a_cons (m_op op_addA mI_addA (m_var 1) (m_var 5)) a_nil)) rfl)))))
 (ss_one (s_ret (m_take 3 rfl (by first | exact Or.inl rfl | exact Or.inr (Or.inl rfl) | exact Or.inr (Or.inr rfl)))))))))
theorem sc_f_law_rule_drawn : FnScope (["row", "room", "way", "group", "kind"] : List Str) ["row"] (defScope s_f_law_rule_drawn) := ⟨rfl, rfl, rfl, by decide +kernel, rfl, by decide +kernel, by decide +kernel⟩
theorem ok_f_law_rule_drawn (T : Tx K mg ad) : FnOk P w K mg base (L2.CX P w) 1 ad.a_f_law_rule_drawn ad.d_f_law_rule_drawn ["row"] (spM K (clT ad) [false] 1 F_f_law_rule_drawn) := by
  have nd : (["row", "room", "way", "group", "kind"] : List Str).Nodup := sc_f_law_rule_drawn.nd
  exact fn_ok (N := ["row", "room", "way", "group", "kind"]) (nl := 4) (m := B_f_law_rule_drawn) T.f_f_law_rule_drawn sc_f_law_rule_drawn rfl rfl (by decide) fun cdv A outer s H E e hr => (ss_cons (s_set 1 nd rfl (by first | exact Or.inl rfl | exact Or.inr rfl | exact Or.inr (Or.inl rfl)) rfl (m_op op_addA mI_addA m_int (m_op op_mod mI_mod (m_ixW 0 rfl (by first | exact Or.inl rfl | exact Or.inr (Or.inl rfl) | exact Or.inr (Or.inr rfl)) m_int (fun _ _ => rfl)) m_int)))
 (ss_cons (s_if (t_cmp (op_eqP (hu64 hr)) mI_eq (m_op op_mod mI_mod (m_ixW 0 rfl (by first | exact Or.inl rfl | exact Or.inr (Or.inl rfl) | exact Or.inr (Or.inr rfl)) m_int (fun _ _ => rfl)) m_int) m_int (nomark _))
 (ss_one (s_set 1 nd rfl (by first | exact Or.inl rfl | exact Or.inr rfl | exact Or.inr (Or.inl rfl)) rfl (m_op op_addA mI_addA m_int (m_op op_mod mI_mod (m_ixW 0 rfl (by first | exact Or.inl rfl | exact Or.inr (Or.inl rfl) | exact Or.inr (Or.inr rfl)) m_int (fun _ _ => rfl)) m_int))))
 ss_nil)
 (ss_cons (s_set 2 nd rfl (by first | exact Or.inl rfl | exact Or.inr rfl | exact Or.inr (Or.inl rfl)) rfl (m_op op_mod mI_mod (m_ixW 0 rfl (by first | exact Or.inl rfl | exact Or.inr (Or.inl rfl) | exact Or.inr (Or.inr rfl)) m_int (fun _ _ => rfl)) m_int))
 (ss_cons (s_set 3 nd rfl (by first | exact Or.inl rfl | exact Or.inr rfl | exact Or.inr (Or.inl rfl)) rfl (m_ix (m_lst (k := 0) (a_cons m_int (a_cons (m_op op_addA mI_addA m_int (m_op op_mod mI_mod (m_ixW 0 rfl (by first | exact Or.inl rfl | exact Or.inr (Or.inl rfl) | exact Or.inr (Or.inr rfl)) m_int (fun _ _ => rfl)) m_int)) (a_cons m_int (a_cons m_int (a_cons m_int (a_cons (m_op op_addA mI_addA m_int (m_op op_mod mI_mod (m_ixW 0 rfl (by first | exact Or.inl rfl | exact Or.inr (Or.inl rfl) | exact Or.inr (Or.inr rfl)) m_int (fun _ _ => rfl)) m_int)) a_nil))))))) (m_var 2) (fun _ _ => rfl)))
 (ss_cons (s_set 4 nd rfl (by first | exact Or.inl rfl | exact Or.inr rfl | exact Or.inr (Or.inl rfl)) rfl (m_ix (m_lst (k := 0) (a_cons m_str (a_cons (m_op op_addA mI_addA m_str (m_callTy (op := strB) call_str_int mB_str rfl T.g_str bt_str (a_take 3 rfl (by first | exact Or.inl rfl | exact Or.inr (Or.inl rfl) | exact Or.inr (Or.inr rfl)) a_nil))) (a_cons m_str (a_cons m_str (a_cons m_str (a_cons (m_op op_addA mI_addA m_str (m_callTy (op := strB) call_str_int mB_str rfl T.g_str bt_str (a_take 3 rfl (by first | exact Or.inl rfl | exact Or.inr (Or.inl rfl) | exact Or.inr (Or.inr rfl)) a_nil))) a_nil))))))) (m_var 2) (fun _ _ => rfl)))
 (ss_one (s_ret (m_tup (a_cons (m_var 1) (a_cons (m_var 3) (a_cons (m_var 4) (a_cons (m_ix (m_lst (k := 0) (a_cons m_str (a_cons m_str (a_cons m_str (a_cons m_str a_nil))))) (m_op op_mod mI_mod (m_ixW 0 rfl (by first | exact Or.inl rfl | exact Or.inr (Or.inl rfl) | exact Or.inr (Or.inr rfl)) m_int (fun _ _ => rfl)) m_int) (fun _ _ => rfl)) a_nil))))))))))))
theorem sc_f_group_of : FnScope (["acks", "digits", "group"] : List Str) ["acks"] (defScope s_f_group_of) := ⟨rfl, rfl, rfl, by decide +kernel, rfl, by decide +kernel, by decide +kernel⟩
theorem ok_f_group_of (T : Tx K mg ad) : FnOk P w K mg base (L2.CX P w) 1 ad.a_f_group_of ad.d_f_group_of ["acks"] (spM K (clT ad) [false] 1 F_f_group_of) := by
  have nd : (["acks", "digits", "group"] : List Str).Nodup := sc_f_group_of.nd
  exact fn_ok (N := ["acks", "digits", "group"]) (nl := 2) (m := B_f_group_of) T.f_f_group_of sc_f_group_of rfl rfl (by decide) fun cdv A outer s H E e hr => (ss_cons (s_if (t_cmp (op_eqP (hu64 hr)) mI_eq (m_var 0) m_str (nomark _))
 (ss_one (s_ret m_int))
 ss_nil)
 (ss_cons (s_if (PW.pt (w_or (t_cmp (op_eqP (hu64 hr)) mI_eq (m_var 0) m_str (nomark _)) (w_or1 (t_cmp (op_eqP (hu64 hr)) mI_eq (m_var 0) m_str (nomark _)))))
 (ss_one (s_ret m_int))
 ss_nil)
 (ss_cons (s_set 1 nd rfl (by first | exact Or.inl rfl | exact Or.inr rfl | exact Or.inr (Or.inl rfl)) rfl (m_slice (m_var 0) (p_some m_int) p_none))
 (ss_cons (s_if (PW.pt (w_or (t_not (t_truth (m_startswith (m_var 0) m_str))) (w_or (t_not (t_truth (m_isdigit (m_var 1)))) (w_or (t_cmp op_gt mI_gt (m_callB (op := lenB) call_len mB_len rfl T.g_len bt_len (a_take 1 rfl (by first | exact Or.inl rfl | exact Or.inr (Or.inl rfl) | exact Or.inr (Or.inr rfl)) a_nil)) m_int (nomark _)) (w_or1 (t_cmp (op_eqP (hu64 hr)) mI_eq (m_ixW 1 rfl (by first | exact Or.inl rfl | exact Or.inr (Or.inl rfl) | exact Or.inr (Or.inr rfl)) m_int (fun _ _ => rfl)) m_str (nomark _)))))))
 (ss_one (s_ret (m_neg m_int)))
 ss_nil)
 (ss_cons (s_set 2 nd rfl (by first | exact Or.inl rfl | exact Or.inr rfl | exact Or.inr (Or.inl rfl)) rfl (m_callTy (op := intA) call_intA mB_intA rfl T.g_int bt_int (a_take 1 rfl (by first | exact Or.inl rfl | exact Or.inr (Or.inl rfl) | exact Or.inr (Or.inr rfl)) a_nil)))
 (ss_cons (s_if (t_chain op_le mI_le op_le mI_le m_int (m_var 2) (m_con rfl T.con_MOST_SIZE rfl))
 (ss_one (s_ret (m_take 2 rfl (by first | exact Or.inl rfl | exact Or.inr (Or.inl rfl) | exact Or.inr (Or.inr rfl)))))
 ss_nil)
 (ss_one (s_ret (m_neg m_int)))))))))
theorem sc_f_Rule_init : FnScope (["self", "w", "r", "acks", "resend"] : List Str) ["self", "w", "r", "acks", "resend"] (defScope s_f_Rule_init) := ⟨rfl, rfl, rfl, by decide +kernel, rfl, by decide +kernel, by decide +kernel⟩
theorem ok_f_Rule_init (T : Tx K mg ad) (GX_BadRule : FnOk P w K mg base (L2.CX P w) 1 ad.xi_BadRule ad.xd_BadRule ["self", "place"] (spX K ad.c_BadRule ["place"])) (G_f_group_of : FnOk P w K mg base (L2.CX P w) 1 ad.a_f_group_of ad.d_f_group_of ["acks"] (spM K (clT ad) [false] 1 F_f_group_of)) : FnOk P w K mg base (L2.CX P w) 3 ad.a_f_Rule_init ad.d_f_Rule_init ["self", "w", "r", "acks", "resend"] (spM K (clT ad) [true, false, false, false, false] 5 F_f_Rule_init) := by
  have nd : (["self", "w", "r", "acks", "resend"] : List Str).Nodup := sc_f_Rule_init.nd
  exact fn_ok (N := ["self", "w", "r", "acks", "resend"]) (nl := 0) (m := B_f_Rule_init) T.f_f_Rule_init sc_f_Rule_init rfl rfl (by decide) fun cdv A outer s H E e hr => (ss_cons (s_if (t_not (t_chain op_le mI_le op_le mI_le m_int (m_var 1) (m_con rfl T.con_MOST_SIZE rfl)))
 (ss_one (s_raise (q := 101) (fs := ["place"]) rfl (takes_of rfl rfl rfl rfl) T.xo_BadRule T.xn_BadRule T.xt_BadRule GX_BadRule (hr.mono (by decide)) T.xb_BadRule passL rfl T.g_BadRule rfl rfl (by decide) (a_cons m_str a_nil)))
 ss_nil)
 (ss_cons (s_if (t_not (t_chain op_le mI_le op_le mI_le m_int (m_var 2) (m_con rfl T.con_MOST_SIZE rfl)))
 (ss_one (s_raise (q := 101) (fs := ["place"]) rfl (takes_of rfl rfl rfl rfl) T.xo_BadRule T.xn_BadRule T.xt_BadRule GX_BadRule (hr.mono (by decide)) T.xb_BadRule passL rfl T.g_BadRule rfl rfl (by decide) (a_cons m_str a_nil)))
 ss_nil)
 (ss_cons (s_if (t_cmp op_lt mI_lt (m_call (n := 1) (F := F_f_group_of) G_f_group_of (hr.mono (by decide)) (takes_of rfl rfl rfl rfl) rfl T.g_f_group_of T.k_f_group_of T.b_f_group_of (a_cons (m_var 3) a_nil) rfl) m_int (nomark _))
 (ss_one (s_raise (q := 101) (fs := ["place"]) rfl (takes_of rfl rfl rfl rfl) T.xo_BadRule T.xn_BadRule T.xt_BadRule GX_BadRule (hr.mono (by decide)) T.xb_BadRule passL rfl T.g_BadRule rfl rfl (by decide) (a_cons m_str a_nil)))
 ss_nil)
 (ss_cons (s_if (t_cmp (op_notInP (hu64 hr)) mI_notIn (m_var 4) (m_tup (a_cons m_str (a_cons m_str (a_cons m_str (a_cons m_str a_nil))))) (by with_unfolding_all rfl))
 (ss_one (s_raise (q := 101) (fs := ["place"]) rfl (takes_of rfl rfl rfl rfl) T.xo_BadRule T.xn_BadRule T.xt_BadRule GX_BadRule (hr.mono (by decide)) T.xb_BadRule passL rfl T.g_BadRule rfl rfl (by decide) (a_cons m_str a_nil)))
 ss_nil)
 (ss_cons (s_at 0 0 0 ⟨of_ad (Q := fun C => Cls K C ∧ NoAttr K C "w") rfl ⟨T.cls_Rule, T.na_Rule_w⟩, rfl, (show (["w", "r", "acks", "resend", "group"] : List Str).Nodup by decide +kernel)⟩ rfl (by first | exact Or.inl rfl | exact Or.inr (Or.inl rfl) | exact Or.inr (Or.inr rfl)) (m_var 1))
 (ss_cons (s_at 0 0 1 ⟨of_ad (Q := fun C => Cls K C ∧ NoAttr K C "r") rfl ⟨T.cls_Rule, T.na_Rule_r⟩, rfl, (show (["w", "r", "acks", "resend", "group"] : List Str).Nodup by decide +kernel)⟩ rfl (by first | exact Or.inl rfl | exact Or.inr (Or.inl rfl) | exact Or.inr (Or.inr rfl)) (m_var 2))
 (ss_cons (s_at 0 0 2 ⟨of_ad (Q := fun C => Cls K C ∧ NoAttr K C "acks") rfl ⟨T.cls_Rule, T.na_Rule_acks⟩, rfl, (show (["w", "r", "acks", "resend", "group"] : List Str).Nodup by decide +kernel)⟩ rfl (by first | exact Or.inl rfl | exact Or.inr (Or.inl rfl) | exact Or.inr (Or.inr rfl)) (m_var 3))
 (ss_cons (s_at 0 0 3 ⟨of_ad (Q := fun C => Cls K C ∧ NoAttr K C "resend") rfl ⟨T.cls_Rule, T.na_Rule_resend⟩, rfl, (show (["w", "r", "acks", "resend", "group"] : List Str).Nodup by decide +kernel)⟩ rfl (by first | exact Or.inl rfl | exact Or.inr (Or.inl rfl) | exact Or.inr (Or.inr rfl)) (m_var 4))
 (ss_one (s_at 0 0 4 ⟨of_ad (Q := fun C => Cls K C ∧ NoAttr K C "group") rfl ⟨T.cls_Rule, T.na_Rule_group⟩, rfl, (show (["w", "r", "acks", "resend", "group"] : List Str).Nodup by decide +kernel)⟩ rfl (by first | exact Or.inl rfl | exact Or.inr (Or.inl rfl) | exact Or.inr (Or.inr rfl)) (m_call (n := 1) (F := F_f_group_of) G_f_group_of (hr.mono (by decide)) (takes_of rfl rfl rfl rfl) rfl T.g_f_group_of T.k_f_group_of T.b_f_group_of (a_cons (m_var 3) a_nil) rfl)))))))))))
theorem sc_f_law_longest : FnScope (["size", "room", "group", "kind", "again", "rate", "j", "numbers", "low", "high", "n", "middle"] : List Str) ["size", "room", "group", "kind", "again", "rate", "j", "numbers"] (defScope s_f_law_longest) := ⟨rfl, rfl, rfl, by decide +kernel, rfl, by decide +kernel, by decide +kernel⟩
theorem ok_f_law_longest (T : Tx K mg ad) (G_f_law_least : FnOk P w K mg base (L2.CX P w) 1 ad.a_f_law_least ad.d_f_law_least ["w", "room", "group", "backs", "again", "k", "j"] (spM K (clT ad) [false, false, false, false, false, false, false] 7 F_f_law_least)) : FnOk P w K mg base (L2.CX P w) 2 ad.a_f_law_longest ad.d_f_law_longest ["size", "room", "group", "kind", "again", "rate", "j", "numbers"] (spM K (clT ad) [false, false, false, false, false, false, false, false] 8 F_f_law_longest) := by
  have nd : (["size", "room", "group", "kind", "again", "rate", "j", "numbers", "low", "high", "n", "middle"] : List Str).Nodup := sc_f_law_longest.nd
  exact fn_ok (N := ["size", "room", "group", "kind", "again", "rate", "j", "numbers", "low", "high", "n", "middle"]) (nl := 4) (m := B_f_law_longest) T.f_f_law_longest sc_f_law_longest rfl rfl (by decide) fun cdv A outer s H E e hr => (ss_cons (s_set 8 nd rfl (by first | exact Or.inl rfl | exact Or.inr rfl | exact Or.inr (Or.inl rfl)) rfl (m_neg m_int))
 (ss_cons (s_set 9 nd rfl (by first | exact Or.inl rfl | exact Or.inr rfl | exact Or.inr (Or.inl rfl)) rfl (m_op op_sub mI_sub (m_op op_fdiv mI_div m_int (m_var 5)) m_int))
 (ss_cons (s_for (passes_of rfl) rfl (i_range1 rfl T.g_range (a_cons m_int a_nil)) (g_name 10 nd rfl (by first | exact Or.inl rfl | exact Or.inr rfl | exact Or.inr (Or.inl rfl)) rfl)
 (ss_one (s_if (t_cmp op_lt mI_lt (m_var 8) (m_var 9) (nomark _))
 (ss_cons (s_set 11 nd rfl (by first | exact Or.inl rfl | exact Or.inr rfl | exact Or.inr (Or.inl rfl)) rfl (m_op op_fdiv mI_div (m_op op_addA mI_addA (m_op op_addA mI_addA (m_var 8) (m_var 9)) m_int) m_int))
 (ss_one (s_if (t_cmp op_le mI_le (m_call (n := 7) (F := F_f_law_least) G_f_law_least (hr.mono (by decide)) (takes_of rfl rfl rfl rfl) rfl T.g_f_law_least T.k_f_law_least T.b_f_law_least (a_cons (m_var 0) (a_cons (m_var 1) (a_cons (m_var 2) (a_cons (m_var 3) (a_cons (m_var 4) (a_cons (m_op op_sub mI_sub (m_op op_mul mI_mul (m_var 5) (m_op op_addA mI_addA (m_var 11) m_int)) m_int) (a_cons (m_var 6) a_nil))))))) rfl) (m_var 7) (nomark _))
 (ss_one (s_set 8 nd rfl (by first | exact Or.inl rfl | exact Or.inr rfl | exact Or.inr (Or.inl rfl)) rfl (m_var 11)))
 (ss_one (s_set 9 nd rfl (by first | exact Or.inl rfl | exact Or.inr rfl | exact Or.inr (Or.inl rfl)) rfl (m_op op_sub mI_sub (m_var 11) m_int))))))
 ss_nil)))
 (ss_one (s_ret (m_take 8 rfl (by first | exact Or.inl rfl | exact Or.inr (Or.inl rfl) | exact Or.inr (Or.inr rfl))))))))
theorem sc_f_resends_base : FnScope (["rule"] : List Str) ["rule"] (defScope s_f_resends_base) := ⟨rfl, rfl, rfl, by decide +kernel, rfl, by decide +kernel, by decide +kernel⟩
theorem ok_f_resends_base (T : Tx K mg ad) : FnOk P w K mg base (L2.CX P w) 1 ad.a_f_resends_base ad.d_f_resends_base ["rule"] (spM K (clT ad) [false] 1 F_f_resends_base) := by
  have nd : (["rule"] : List Str).Nodup := sc_f_resends_base.nd
  exact fn_ok (N := ["rule"]) (nl := 0) (m := B_f_resends_base) T.f_f_resends_base sc_f_resends_base rfl rfl (by decide) fun cdv A outer s H E e hr => (ss_one (s_ret (m_or (m_cmp (op_inP (hu64 hr)) mI_in (m_atW 0 (at_resend T) rfl (by first | exact Or.inl rfl | exact Or.inr (Or.inl rfl) | exact Or.inr (Or.inr rfl))) (m_tup (a_cons m_str (a_cons m_str a_nil))) (by with_unfolding_all rfl)) (m_one (m_and (m_cmp (op_eqP (hu64 hr)) mI_eq (m_atW 0 (at_resend T) rfl (by first | exact Or.inl rfl | exact Or.inr (Or.inl rfl) | exact Or.inr (Or.inr rfl))) m_str (nomark _)) (m_one (m_cmp (op_eqP (hu64 hr)) mI_eq (m_atW 0 (at_w T) rfl (by first | exact Or.inl rfl | exact Or.inr (Or.inl rfl) | exact Or.inr (Or.inr rfl))) m_int (nomark _))))))))
theorem sc_f_gain_of : FnScope (["rule", "channel"] : List Str) ["rule", "channel"] (defScope s_f_gain_of) := ⟨rfl, rfl, rfl, by decide +kernel, rfl, by decide +kernel, by decide +kernel⟩
theorem ok_f_gain_of (T : Tx K mg ad) (G_f_resends_base : FnOk P w K mg base (L2.CX P w) 1 ad.a_f_resends_base ad.d_f_resends_base ["rule"] (spM K (clT ad) [false] 1 F_f_resends_base)) : FnOk P w K mg base (L2.CX P w) 2 ad.a_f_gain_of ad.d_f_gain_of ["rule", "channel"] (spM K (clT ad) [false, false] 2 F_f_gain_of) := by
  have nd : (["rule", "channel"] : List Str).Nodup := sc_f_gain_of.nd
  exact fn_ok (N := ["rule", "channel"]) (nl := 0) (m := B_f_gain_of) T.f_f_gain_of sc_f_gain_of rfl rfl (by decide) fun cdv A outer s H E e hr => (ss_cons (s_if (t_truth (m_call (n := 1) (F := F_f_resends_base) G_f_resends_base (hr.mono (by decide)) (takes_of rfl rfl rfl rfl) rfl T.g_f_resends_base T.k_f_resends_base T.b_f_resends_base (a_cons (m_var 0) a_nil) rfl))
 (ss_one (s_ret (m_callB (op := minB) (call_min2 rfl) mB_min rfl T.g_min bt_min (a_cons (m_atW 0 (at_w T) rfl (by first | exact Or.inl rfl | exact Or.inr (Or.inl rfl) | exact Or.inr (Or.inr rfl))) (a_cons (m_atW 0 (at_r T) rfl (by first | exact Or.inl rfl | exact Or.inr (Or.inl rfl) | exact Or.inr (Or.inr rfl))) a_nil)))))
 ss_nil)
 (ss_one (s_ret (m_callB (op := (on3 min3)) (call_min3 rfl) (mB_3 min3) rfl T.g_min bt_min (a_cons (m_atW 0 (at_w T) rfl (by first | exact Or.inl rfl | exact Or.inr (Or.inl rfl) | exact Or.inr (Or.inr rfl))) (a_cons (m_atW 0 (at_r T) rfl (by first | exact Or.inl rfl | exact Or.inr (Or.inl rfl) | exact Or.inr (Or.inr rfl))) (a_cons (m_op op_addA mI_addA (m_atW 1 (at_k T) rfl (by first | exact Or.inl rfl | exact Or.inr (Or.inl rfl) | exact Or.inr (Or.inr rfl))) m_int) a_nil)))))))
theorem sc_f_growth : FnScope (["rule", "channel", "gain"] : List Str) ["rule", "channel"] (defScope s_f_growth) := ⟨rfl, rfl, rfl, by decide +kernel, rfl, by decide +kernel, by decide +kernel⟩
theorem ok_f_growth (T : Tx K mg ad) (G_f_gain_of : FnOk P w K mg base (L2.CX P w) 2 ad.a_f_gain_of ad.d_f_gain_of ["rule", "channel"] (spM K (clT ad) [false, false] 2 F_f_gain_of)) : FnOk P w K mg base (L2.CX P w) 3 ad.a_f_growth ad.d_f_growth ["rule", "channel"] (spM K (clT ad) [false, false] 2 F_f_growth) := by
  have nd : (["rule", "channel", "gain"] : List Str).Nodup := sc_f_growth.nd
  exact fn_ok (N := ["rule", "channel", "gain"]) (nl := 1) (m := B_f_growth) T.f_f_growth sc_f_growth rfl rfl (by decide) fun cdv A outer s H E e hr => (ss_cons (s_if (t_cmp (op_eqP (hu64 hr)) mI_eq (m_atW 1 (at_j T) rfl (by first | exact Or.inl rfl | exact Or.inr (Or.inl rfl) | exact Or.inr (Or.inr rfl))) m_int (nomark _))
 (ss_one (s_ret m_int))
 ss_nil)
 (ss_cons (s_set 2 nd rfl (by first | exact Or.inl rfl | exact Or.inr rfl | exact Or.inr (Or.inl rfl)) rfl (m_call (n := 2) (F := F_f_gain_of) G_f_gain_of (hr.mono (by decide)) (takes_of rfl rfl rfl rfl) rfl T.g_f_gain_of T.k_f_gain_of T.b_f_gain_of (a_cons (m_var 0) (a_cons (m_var 1) a_nil)) rfl))
 (ss_cons (s_if (t_cmp (op_eqP (hu64 hr)) mI_eq (m_atW 0 (at_acks T) rfl (by first | exact Or.inl rfl | exact Or.inr (Or.inl rfl) | exact Or.inr (Or.inr rfl))) m_str (nomark _))
 (ss_one (s_ret (m_op op_mul mI_mul (m_atW 1 (at_j T) rfl (by first | exact Or.inl rfl | exact Or.inr (Or.inl rfl) | exact Or.inr (Or.inr rfl))) (m_atW 0 (at_w T) rfl (by first | exact Or.inl rfl | exact Or.inr (Or.inl rfl) | exact Or.inr (Or.inr rfl))))))
 ss_nil)
 (ss_cons (s_if (t_cmp (op_eqP (hu64 hr)) mI_eq (m_atW 0 (at_acks T) rfl (by first | exact Or.inl rfl | exact Or.inr (Or.inl rfl) | exact Or.inr (Or.inr rfl))) m_str (nomark _))
 (ss_one (s_ret (m_op op_mul mI_mul (m_atW 1 (at_j T) rfl (by first | exact Or.inl rfl | exact Or.inr (Or.inl rfl) | exact Or.inr (Or.inr rfl))) (m_var 2))))
 ss_nil)
 (ss_one (s_ret (m_op op_addA mI_addA (m_callB (op := minB) (call_min2 rfl) mB_min rfl T.g_min bt_min (a_cons (m_op op_addA mI_addA (m_op op_sub mI_sub (m_var 2) m_int) (m_atW 0 (at_group T) rfl (by first | exact Or.inl rfl | exact Or.inr (Or.inl rfl) | exact Or.inr (Or.inr rfl)))) (a_cons (m_atW 0 (at_w T) rfl (by first | exact Or.inl rfl | exact Or.inr (Or.inl rfl) | exact Or.inr (Or.inr rfl))) a_nil))) (m_op op_mul mI_mul (m_op op_sub mI_sub (m_atW 1 (at_j T) rfl (by first | exact Or.inl rfl | exact Or.inr (Or.inl rfl) | exact Or.inr (Or.inr rfl))) m_int) (m_callB (op := minB) (call_min2 rfl) mB_min rfl T.g_min bt_min (a_cons (m_atW 0 (at_group T) rfl (by first | exact Or.inl rfl | exact Or.inr (Or.inl rfl) | exact Or.inr (Or.inr rfl))) (a_cons (m_atW 0 (at_w T) rfl (by first | exact Or.inl rfl | exact Or.inr (Or.inl rfl) | exact Or.inr (Or.inr rfl))) a_nil)))))))))))
theorem sc_f_reach_of : FnScope (["rule"] : List Str) ["rule"] (defScope s_f_reach_of) := ⟨rfl, rfl, rfl, by decide +kernel, rfl, by decide +kernel, by decide +kernel⟩
theorem ok_f_reach_of (T : Tx K mg ad) (G_f_resends_base : FnOk P w K mg base (L2.CX P w) 1 ad.a_f_resends_base ad.d_f_resends_base ["rule"] (spM K (clT ad) [false] 1 F_f_resends_base)) : FnOk P w K mg base (L2.CX P w) 2 ad.a_f_reach_of ad.d_f_reach_of ["rule"] (spM K (clT ad) [false] 1 F_f_reach_of) := by
  have nd : (["rule"] : List Str).Nodup := sc_f_reach_of.nd
  exact fn_ok (N := ["rule"]) (nl := 0) (m := B_f_reach_of) T.f_f_reach_of sc_f_reach_of rfl rfl (by decide) fun cdv A outer s H E e hr => (ss_cons (s_if (t_truth (m_call (n := 1) (F := F_f_resends_base) G_f_resends_base (hr.mono (by decide)) (takes_of rfl rfl rfl rfl) rfl T.g_f_resends_base T.k_f_resends_base T.b_f_resends_base (a_cons (m_var 0) a_nil) rfl))
 (ss_one (s_ret (m_atW 0 (at_w T) rfl (by first | exact Or.inl rfl | exact Or.inr (Or.inl rfl) | exact Or.inr (Or.inr rfl)))))
 ss_nil)
 (ss_one (s_ret m_int)))
theorem sc_f_least_by_formula : FnScope (["rule", "channel"] : List Str) ["rule", "channel"] (defScope s_f_least_by_formula) := ⟨rfl, rfl, rfl, by decide +kernel, rfl, by decide +kernel, by decide +kernel⟩
theorem ok_f_least_by_formula (T : Tx K mg ad) (G_f_growth : FnOk P w K mg base (L2.CX P w) 3 ad.a_f_growth ad.d_f_growth ["rule", "channel"] (spM K (clT ad) [false, false] 2 F_f_growth)) (G_f_reach_of : FnOk P w K mg base (L2.CX P w) 2 ad.a_f_reach_of ad.d_f_reach_of ["rule"] (spM K (clT ad) [false] 1 F_f_reach_of)) : FnOk P w K mg base (L2.CX P w) 4 ad.a_f_least_by_formula ad.d_f_least_by_formula ["rule", "channel"] (spM K (clT ad) [false, false] 2 F_f_least_by_formula) := by
  have nd : (["rule", "channel"] : List Str).Nodup := sc_f_least_by_formula.nd
  exact fn_ok (N := ["rule", "channel"]) (nl := 0) (m := B_f_least_by_formula) T.f_f_least_by_formula sc_f_least_by_formula rfl rfl (by decide) fun cdv A outer s H E e hr => (ss_one (s_ret (m_callB (op := maxB) (call_max2 rfl) mB_max rfl T.g_max bt_max (a_cons (m_op op_addA mI_addA (m_op op_addA mI_addA (m_call (n := 1) (F := F_f_reach_of) G_f_reach_of (hr.mono (by decide)) (takes_of rfl rfl rfl rfl) rfl T.g_f_reach_of T.k_f_reach_of T.b_f_reach_of (a_cons (m_var 0) a_nil) rfl) (m_atW 0 (at_r T) rfl (by first | exact Or.inl rfl | exact Or.inr (Or.inl rfl) | exact Or.inr (Or.inr rfl)))) (m_atW 1 (at_k T) rfl (by first | exact Or.inl rfl | exact Or.inr (Or.inl rfl) | exact Or.inr (Or.inr rfl)))) (a_cons (m_op op_addA mI_addA (m_op op_addA mI_addA (m_atW 0 (at_w T) rfl (by first | exact Or.inl rfl | exact Or.inr (Or.inl rfl) | exact Or.inr (Or.inr rfl))) m_int) (m_call (n := 2) (F := F_f_growth) G_f_growth (hr.mono (by decide)) (takes_of rfl rfl rfl rfl) rfl T.g_f_growth T.k_f_growth T.b_f_growth (a_cons (m_var 0) (a_cons (m_var 1) a_nil)) rfl)) a_nil)))))
theorem sc_f_Channel_init : FnScope (["self", "k", "j"] : List Str) ["self", "k", "j"] (defScope s_f_Channel_init) := ⟨rfl, rfl, rfl, by decide +kernel, rfl, by decide +kernel, by decide +kernel⟩
theorem ok_f_Channel_init (T : Tx K mg ad) (GX_BadChannel : FnOk P w K mg base (L2.CX P w) 1 ad.xi_BadChannel ad.xd_BadChannel ["self", "place"] (spX K ad.c_BadChannel ["place"])) : FnOk P w K mg base (L2.CX P w) 3 ad.a_f_Channel_init ad.d_f_Channel_init ["self", "k", "j"] (spM K (clT ad) [true, false, false] 3 F_f_Channel_init) := by
  have nd : (["self", "k", "j"] : List Str).Nodup := sc_f_Channel_init.nd
  exact fn_ok (N := ["self", "k", "j"]) (nl := 0) (m := B_f_Channel_init) T.f_f_Channel_init sc_f_Channel_init rfl rfl (by decide) fun cdv A outer s H E e hr => (ss_cons (s_if (t_not (t_chain op_le mI_le op_le mI_le m_int (m_var 1) (m_con rfl T.con_MOST_SIZE rfl)))
 (ss_one (s_raise (q := 102) (fs := ["place"]) rfl (takes_of rfl rfl rfl rfl) T.xo_BadChannel T.xn_BadChannel T.xt_BadChannel GX_BadChannel (hr.mono (by decide)) T.xb_BadChannel passL rfl T.g_BadChannel rfl rfl (by decide) (a_cons m_str a_nil)))
 ss_nil)
 (ss_cons (s_if (t_not (t_chain op_le mI_le op_le mI_le m_int (m_var 2) (m_con rfl T.con_MOST_SIZE rfl)))
 (ss_one (s_raise (q := 102) (fs := ["place"]) rfl (takes_of rfl rfl rfl rfl) T.xo_BadChannel T.xn_BadChannel T.xt_BadChannel GX_BadChannel (hr.mono (by decide)) T.xb_BadChannel passL rfl T.g_BadChannel rfl rfl (by decide) (a_cons m_str a_nil)))
 ss_nil)
 (ss_cons (s_at 0 1 0 ⟨of_ad (Q := fun C => Cls K C ∧ NoAttr K C "k") rfl ⟨T.cls_Channel, T.na_Channel_k⟩, rfl, (show (["k", "j"] : List Str).Nodup by decide +kernel)⟩ rfl (by first | exact Or.inl rfl | exact Or.inr (Or.inl rfl) | exact Or.inr (Or.inr rfl)) (m_var 1))
 (ss_one (s_at 0 1 1 ⟨of_ad (Q := fun C => Cls K C ∧ NoAttr K C "j") rfl ⟨T.cls_Channel, T.na_Channel_j⟩, rfl, (show (["k", "j"] : List Str).Nodup by decide +kernel)⟩ rfl (by first | exact Or.inl rfl | exact Or.inr (Or.inl rfl) | exact Or.inr (Or.inr rfl)) (m_var 2))))))
theorem sc_f_lag : FnScope (["lifetime"] : List Str) ["lifetime"] (defScope s_f_lag) := ⟨rfl, rfl, rfl, by decide +kernel, rfl, by decide +kernel, by decide +kernel⟩
theorem ok_f_lag (T : Tx K mg ad) : FnOk P w K mg base (L2.CX P w) 1 ad.a_f_lag ad.d_f_lag ["lifetime"] (spM K (clT ad) [false] 1 F_f_lag) := by
  have nd : (["lifetime"] : List Str).Nodup := sc_f_lag.nd
  exact fn_ok (N := ["lifetime"]) (nl := 0) (m := B_f_lag) T.f_f_lag sc_f_lag rfl rfl (by decide) fun cdv A outer s H E e hr => (ss_one (s_ret (m_op op_sub mI_sub (m_op op_mul mI_mul (m_atW 0 (at_rate T) rfl (by first | exact Or.inl rfl | exact Or.inr (Or.inl rfl) | exact Or.inr (Or.inr rfl))) (m_op op_addA mI_addA (m_atW 0 (at_ticks T) rfl (by first | exact Or.inl rfl | exact Or.inr (Or.inl rfl) | exact Or.inr (Or.inr rfl))) m_int)) m_int)))
theorem sc_f_lifetime_channel : FnScope (["lifetime", "j"] : List Str) ["lifetime", "j"] (defScope s_f_lifetime_channel) := ⟨rfl, rfl, rfl, by decide +kernel, rfl, by decide +kernel, by decide +kernel⟩
theorem ok_f_lifetime_channel (T : Tx K mg ad) (G_f_Channel_init : FnOk P w K mg base (L2.CX P w) 3 ad.a_f_Channel_init ad.d_f_Channel_init ["self", "k", "j"] (spM K (clT ad) [true, false, false] 3 F_f_Channel_init)) (G_f_lag : FnOk P w K mg base (L2.CX P w) 1 ad.a_f_lag ad.d_f_lag ["lifetime"] (spM K (clT ad) [false] 1 F_f_lag)) : FnOk P w K mg base (L2.CX P w) 5 ad.a_f_lifetime_channel ad.d_f_lifetime_channel ["lifetime", "j"] (spM K (clT ad) [false, false] 2 F_f_lifetime_channel) := by
  have nd : (["lifetime", "j"] : List Str).Nodup := sc_f_lifetime_channel.nd
  exact fn_ok (N := ["lifetime", "j"]) (nl := 0) (m := B_f_lifetime_channel) T.f_f_lifetime_channel sc_f_lifetime_channel rfl rfl (by decide) fun cdv A outer s H E e hr => (ss_one (s_ret (m_mk (q := 1) (n := 3) (F := F_f_Channel_init) rfl rfl T.mk_Channel G_f_Channel_init (hr.mono (by decide)) (takes_of rfl rfl rfl rfl) rfl T.g_Channel T.b_f_Channel_init (a_cons (m_call (n := 1) (F := F_f_lag) G_f_lag (hr.mono (by decide)) (takes_of rfl rfl rfl rfl) rfl T.g_f_lag T.k_f_lag T.b_f_lag (a_cons (m_var 0) a_nil) rfl) (a_cons (m_var 1) a_nil)))))
theorem sc_f_least_for_lifetime : FnScope (["rule", "lifetime", "j"] : List Str) ["rule", "lifetime", "j"] (defScope s_f_least_for_lifetime) := ⟨rfl, rfl, rfl, by decide +kernel, rfl, by decide +kernel, by decide +kernel⟩
theorem ok_f_least_for_lifetime (T : Tx K mg ad) (G_f_least_by_formula : FnOk P w K mg base (L2.CX P w) 4 ad.a_f_least_by_formula ad.d_f_least_by_formula ["rule", "channel"] (spM K (clT ad) [false, false] 2 F_f_least_by_formula)) (G_f_lifetime_channel : FnOk P w K mg base (L2.CX P w) 5 ad.a_f_lifetime_channel ad.d_f_lifetime_channel ["lifetime", "j"] (spM K (clT ad) [false, false] 2 F_f_lifetime_channel)) : FnOk P w K mg base (L2.CX P w) 6 ad.a_f_least_for_lifetime ad.d_f_least_for_lifetime ["rule", "lifetime", "j"] (spM K (clT ad) [false, false, false] 3 F_f_least_for_lifetime) := by
  have nd : (["rule", "lifetime", "j"] : List Str).Nodup := sc_f_least_for_lifetime.nd
  exact fn_ok (N := ["rule", "lifetime", "j"]) (nl := 0) (m := B_f_least_for_lifetime) T.f_f_least_for_lifetime sc_f_least_for_lifetime rfl rfl (by decide) fun cdv A outer s H E e hr => (ss_one (s_ret (m_call (n := 2) (F := F_f_least_by_formula) G_f_least_by_formula (hr.mono (by decide)) (takes_of rfl rfl rfl rfl) rfl T.g_f_least_by_formula T.k_f_least_by_formula T.b_f_least_by_formula (a_cons (m_var 0) (a_cons (m_call (n := 2) (F := F_f_lifetime_channel) G_f_lifetime_channel (hr.mono (by decide)) (takes_of rfl rfl rfl rfl) rfl T.g_f_lifetime_channel T.k_f_lifetime_channel T.b_f_lifetime_channel (a_cons (m_var 1) (a_cons (m_var 2) a_nil)) rfl) a_nil)) rfl)))
theorem sc_f_check_numbers : FnScope (["numbers"] : List Str) ["numbers"] (defScope s_f_check_numbers) := ⟨rfl, rfl, rfl, by decide +kernel, rfl, by decide +kernel, by decide +kernel⟩
theorem ok_f_check_numbers (T : Tx K mg ad) (GX_BadNumbers : FnOk P w K mg base (L2.CX P w) 1 ad.xi_BadNumbers ad.xd_BadNumbers ["self", "numbers"] (spX K ad.c_BadNumbers ["numbers"])) : FnOk P w K mg base (L2.CX P w) 3 ad.a_f_check_numbers ad.d_f_check_numbers ["numbers"] (spM K (clT ad) [false] 1 F_f_check_numbers) := by
  have nd : (["numbers"] : List Str).Nodup := sc_f_check_numbers.nd
  exact fn_ok (N := ["numbers"]) (nl := 0) (m := B_f_check_numbers) T.f_f_check_numbers sc_f_check_numbers rfl rfl (by decide) fun cdv A outer s H E e hr => (ss_one (s_if (t_not (t_chain op_le mI_le op_le mI_le m_int (m_var 0) (m_con rfl T.con_MOST_NUMBERS rfl)))
 (ss_one (s_raise (q := 103) (fs := ["numbers"]) rfl (takes_of rfl rfl rfl rfl) T.xo_BadNumbers T.xn_BadNumbers T.xt_BadNumbers GX_BadNumbers (hr.mono (by decide)) T.xb_BadNumbers passL rfl T.g_BadNumbers rfl rfl (by decide) (a_cons (m_var 0) a_nil)))
 ss_nil))
theorem sc_f_longest_lifetime : FnScope (["rule", "rate", "j", "numbers", "low", "high", "middle"] : List Str) ["rule", "rate", "j", "numbers"] (defScope s_f_longest_lifetime) := ⟨rfl, rfl, rfl, by decide +kernel, rfl, by decide +kernel, by decide +kernel⟩
theorem ok_f_longest_lifetime (T : Tx K mg ad) (G_f_Lifetime_init : FnOk P w K mg base (L2.CX P w) 3 ad.a_f_Lifetime_init ad.d_f_Lifetime_init ["self", "ticks", "rate"] (spM K (clT ad) [true, false, false] 3 F_f_Lifetime_init)) (G_f_least_for_lifetime : FnOk P w K mg base (L2.CX P w) 6 ad.a_f_least_for_lifetime ad.d_f_least_for_lifetime ["rule", "lifetime", "j"] (spM K (clT ad) [false, false, false] 3 F_f_least_for_lifetime)) (G_f_check_numbers : FnOk P w K mg base (L2.CX P w) 3 ad.a_f_check_numbers ad.d_f_check_numbers ["numbers"] (spM K (clT ad) [false] 1 F_f_check_numbers)) : FnOk P w K mg base (L2.CX P w) 7 ad.a_f_longest_lifetime ad.d_f_longest_lifetime ["rule", "rate", "j", "numbers"] (spM K (clT ad) [false, false, false, false] 4 F_f_longest_lifetime) := by
  have nd : (["rule", "rate", "j", "numbers", "low", "high", "middle"] : List Str).Nodup := sc_f_longest_lifetime.nd
  exact fn_ok (N := ["rule", "rate", "j", "numbers", "low", "high", "middle"]) (nl := 3) (m := B_f_longest_lifetime) T.f_f_longest_lifetime sc_f_longest_lifetime rfl rfl (by decide) fun cdv A outer s H E e hr => (ss_cons (s_expr (m_call (n := 1) (F := F_f_check_numbers) G_f_check_numbers (hr.mono (by decide)) (takes_of rfl rfl rfl rfl) rfl T.g_f_check_numbers T.k_f_check_numbers T.b_f_check_numbers (a_cons (m_var 3) a_nil) rfl))
 (ss_cons (s_if (t_cmp op_lt mI_lt (m_var 3) (m_call (n := 3) (F := F_f_least_for_lifetime) G_f_least_for_lifetime (hr.mono (by decide)) (takes_of rfl rfl rfl rfl) rfl T.g_f_least_for_lifetime T.k_f_least_for_lifetime T.b_f_least_for_lifetime (a_cons (m_var 0) (a_cons (m_mk (q := 2) (n := 3) (F := F_f_Lifetime_init) rfl rfl T.mk_Lifetime G_f_Lifetime_init (hr.mono (by decide)) (takes_of rfl rfl rfl rfl) rfl T.g_Lifetime T.b_f_Lifetime_init (a_cons m_int (a_cons (m_var 1) a_nil))) (a_cons (m_var 2) a_nil))) rfl) (nomark _))
 (ss_one (s_ret m_non))
 ss_nil)
 (ss_cons (s_set 4 nd rfl (by first | exact Or.inl rfl | exact Or.inr rfl | exact Or.inr (Or.inl rfl)) rfl m_int)
 (ss_cons (s_set 5 nd rfl (by first | exact Or.inl rfl | exact Or.inr rfl | exact Or.inr (Or.inl rfl)) rfl (m_op op_sub mI_sub (m_op op_fdiv mI_div (m_op op_addA mI_addA (m_con rfl T.con_MOST_SIZE rfl) m_int) (m_var 1)) m_int))
 (ss_cons (s_while 100000 (passes_of rfl) (t_cmp op_lt mI_lt (m_var 4) (m_var 5) (nomark _))
 (ss_cons (s_set 6 nd rfl (by first | exact Or.inl rfl | exact Or.inr rfl | exact Or.inr (Or.inl rfl)) rfl (m_op op_fdiv mI_div (m_op op_addA mI_addA (m_op op_addA mI_addA (m_var 4) (m_var 5)) m_int) m_int))
 (ss_one (s_if (t_cmp op_le mI_le (m_call (n := 3) (F := F_f_least_for_lifetime) G_f_least_for_lifetime (hr.mono (by decide)) (takes_of rfl rfl rfl rfl) rfl T.g_f_least_for_lifetime T.k_f_least_for_lifetime T.b_f_least_for_lifetime (a_cons (m_var 0) (a_cons (m_mk (q := 2) (n := 3) (F := F_f_Lifetime_init) rfl rfl T.mk_Lifetime G_f_Lifetime_init (hr.mono (by decide)) (takes_of rfl rfl rfl rfl) rfl T.g_Lifetime T.b_f_Lifetime_init (a_cons (m_var 6) (a_cons (m_var 1) a_nil))) (a_cons (m_var 2) a_nil))) rfl) (m_var 3) (nomark _))
 (ss_one (s_set 4 nd rfl (by first | exact Or.inl rfl | exact Or.inr rfl | exact Or.inr (Or.inl rfl)) rfl (m_var 6)))
 (ss_one (s_set 5 nd rfl (by first | exact Or.inl rfl | exact Or.inr rfl | exact Or.inr (Or.inl rfl)) rfl (m_op op_sub mI_sub (m_var 6) m_int)))))))
 (ss_one (s_ret (m_mk (q := 2) (n := 3) (F := F_f_Lifetime_init) rfl rfl T.mk_Lifetime G_f_Lifetime_init (hr.mono (by decide)) (takes_of rfl rfl rfl rfl) rfl T.g_Lifetime T.b_f_Lifetime_init (a_cons (m_var 4) (a_cons (m_var 1) a_nil))))))))))
theorem sc_f_law_side : FnScope (["size", "drawn", "ticks", "rate", "j", "numbers", "fits", "room", "group", "kind", "again", "rule", "least", "longest", "told"] : List Str) ["size", "drawn", "ticks", "rate", "j", "numbers", "fits"] (defScope s_f_law_side) := ⟨rfl, rfl, rfl, by decide +kernel, rfl, by decide +kernel, by decide +kernel⟩
theorem ok_f_law_side (T : Tx K mg ad) (G_f_Lifetime_init : FnOk P w K mg base (L2.CX P w) 3 ad.a_f_Lifetime_init ad.d_f_Lifetime_init ["self", "ticks", "rate"] (spM K (clT ad) [true, false, false] 3 F_f_Lifetime_init)) (G_f_law_least : FnOk P w K mg base (L2.CX P w) 1 ad.a_f_law_least ad.d_f_law_least ["w", "room", "group", "backs", "again", "k", "j"] (spM K (clT ad) [false, false, false, false, false, false, false] 7 F_f_law_least)) (G_f_law_like : FnOk P w K mg base (L2.CX P w) (0 + 8) ad.a_f_law_like ad.d_f_law_like ["told", "due"] (spM K (clT ad) [false, false] 2 F_f_law_like)) (G_f_Rule_init : FnOk P w K mg base (L2.CX P w) 3 ad.a_f_Rule_init ad.d_f_Rule_init ["self", "w", "r", "acks", "resend"] (spM K (clT ad) [true, false, false, false, false] 5 F_f_Rule_init)) (G_f_law_longest : FnOk P w K mg base (L2.CX P w) 2 ad.a_f_law_longest ad.d_f_law_longest ["size", "room", "group", "kind", "again", "rate", "j", "numbers"] (spM K (clT ad) [false, false, false, false, false, false, false, false] 8 F_f_law_longest)) (G_f_least_for_lifetime : FnOk P w K mg base (L2.CX P w) 6 ad.a_f_least_for_lifetime ad.d_f_least_for_lifetime ["rule", "lifetime", "j"] (spM K (clT ad) [false, false, false] 3 F_f_least_for_lifetime)) (G_f_longest_lifetime : FnOk P w K mg base (L2.CX P w) 7 ad.a_f_longest_lifetime ad.d_f_longest_lifetime ["rule", "rate", "j", "numbers"] (spM K (clT ad) [false, false, false, false] 4 F_f_longest_lifetime)) : FnOk P w K mg base (L2.CX P w) 10 ad.a_f_law_side ad.d_f_law_side ["size", "drawn", "ticks", "rate", "j", "numbers", "fits"] (spM K (clT ad) [false, false, false, false, false, false, false] 7 F_f_law_side) := by
  have nd : (["size", "drawn", "ticks", "rate", "j", "numbers", "fits", "room", "group", "kind", "again", "rule", "least", "longest", "told"] : List Str).Nodup := sc_f_law_side.nd
  exact fn_ok (N := ["size", "drawn", "ticks", "rate", "j", "numbers", "fits", "room", "group", "kind", "again", "rule", "least", "longest", "told"]) (nl := 8) (m := B_f_law_side) T.f_f_law_side sc_f_law_side rfl rfl (by decide) fun cdv A outer s H E e hr => (ss_cons (s_asg (m_var 1) (g_tup rfl (gs_cons (g_name 7 nd rfl (by first | exact Or.inl rfl | exact Or.inr rfl | exact Or.inr (Or.inl rfl)) rfl) (gs_cons (g_name 8 nd rfl (by first | exact Or.inl rfl | exact Or.inr rfl | exact Or.inr (Or.inl rfl)) rfl) (gs_cons (g_name 9 nd rfl (by first | exact Or.inl rfl | exact Or.inr rfl | exact Or.inr (Or.inl rfl)) rfl) (gs_cons (g_name 10 nd rfl (by first | exact Or.inl rfl | exact Or.inr rfl | exact Or.inr (Or.inl rfl)) rfl) gs_nil))))))
 (ss_cons (s_set 11 nd rfl (by first | exact Or.inl rfl | exact Or.inr rfl | exact Or.inr (Or.inl rfl)) rfl (m_mk (q := 0) (n := 5) (F := F_f_Rule_init) rfl rfl T.mk_Rule G_f_Rule_init (hr.mono (by decide)) (takes_of rfl rfl rfl rfl) rfl T.g_Rule T.b_f_Rule_init (a_cons (m_var 0) (a_cons (m_var 7) (a_cons (m_var 9) (a_cons (m_var 10) a_nil))))))
 (ss_cons (s_set 12 nd rfl (by first | exact Or.inl rfl | exact Or.inr rfl | exact Or.inr (Or.inl rfl)) rfl (m_call (n := 7) (F := F_f_law_least) G_f_law_least (hr.mono (by decide)) (takes_of rfl rfl rfl rfl) rfl T.g_f_law_least T.k_f_law_least T.b_f_law_least (a_cons (m_var 0) (a_cons (m_var 7) (a_cons (m_var 8) (a_cons (m_var 9) (a_cons (m_var 10) (a_cons (m_op op_sub mI_sub (m_op op_mul mI_mul (m_var 3) (m_op op_addA mI_addA (m_var 2) m_int)) m_int) (a_cons (m_var 4) a_nil))))))) rfl))
 (ss_cons (s_if (PW.pt (w_or (t_not (t_truth (m_call (n := 2) (F := F_f_law_like) G_f_law_like (hr.mono (by decide)) (takes_of rfl rfl rfl rfl) rfl T.g_f_law_like T.k_f_law_like T.b_f_law_like (a_cons (m_call (n := 3) (F := F_f_least_for_lifetime) G_f_least_for_lifetime (hr.mono (by decide)) (takes_of rfl rfl rfl rfl) rfl T.g_f_least_for_lifetime T.k_f_least_for_lifetime T.b_f_least_for_lifetime (a_cons (m_var 11) (a_cons (m_mk (q := 2) (n := 3) (F := F_f_Lifetime_init) rfl rfl T.mk_Lifetime G_f_Lifetime_init (hr.mono (by decide)) (takes_of rfl rfl rfl rfl) rfl T.g_Lifetime T.b_f_Lifetime_init (a_cons (m_var 2) (a_cons (m_var 3) a_nil))) (a_cons (m_var 4) a_nil))) rfl) (a_cons (m_var 12) a_nil)) rfl))) (w_or1 (t_cmp (op_neP (hu64 hr)) mI_ne (m_cmp op_le mI_le (m_var 12) (m_var 5) (nomark _)) (m_var 6) (nomark _)))))
 (ss_one (s_ret m_bl))
 ss_nil)
 (ss_cons (s_set 13 nd rfl (by first | exact Or.inl rfl | exact Or.inr rfl | exact Or.inr (Or.inl rfl)) rfl (m_call (n := 8) (F := F_f_law_longest) G_f_law_longest (hr.mono (by decide)) (takes_of rfl rfl rfl rfl) rfl T.g_f_law_longest T.k_f_law_longest T.b_f_law_longest (a_cons (m_var 0) (a_cons (m_var 7) (a_cons (m_var 8) (a_cons (m_var 9) (a_cons (m_var 10) (a_cons (m_var 3) (a_cons (m_var 4) (a_cons (m_var 5) a_nil)))))))) rfl))
 (ss_cons (s_set 14 nd rfl (by first | exact Or.inl rfl | exact Or.inr rfl | exact Or.inr (Or.inl rfl)) rfl (m_call (n := 4) (F := F_f_longest_lifetime) G_f_longest_lifetime (hr.mono (by decide)) (takes_of rfl rfl rfl rfl) rfl T.g_f_longest_lifetime T.k_f_longest_lifetime T.b_f_longest_lifetime (a_cons (m_var 11) (a_cons (m_var 3) (a_cons (m_var 4) (a_cons (m_var 5) a_nil)))) rfl))
 (ss_cons (s_if (t_cmp op_lt mI_lt (m_var 13) m_int (nomark _))
 (ss_one (s_ret (m_and (m_isN (m_var 14)) (m_one (m_not (m_var 6))))))
 ss_nil)
 (ss_cons (s_if (PW.pt (w_or (t_not (t_truth (m_isi (v := .ref ad.c_Lifetime) (u := .ref ad.c_Lifetime) rfl T.g_isinstance (m_var 14) (pe_cls (by rfl) (.inr T.g_Lifetime) rfl) (.own _) (isc_Lifetime T)))) (w_or1 (t_not (t_truth (m_call (n := 2) (F := F_f_law_like) G_f_law_like (hr.mono (by decide)) (takes_of rfl rfl rfl rfl) rfl T.g_f_law_like T.k_f_law_like T.b_f_law_like (a_cons (m_tup (a_cons (m_atW 14 (at_ticks T) rfl (by first | exact Or.inl rfl | exact Or.inr (Or.inl rfl) | exact Or.inr (Or.inr rfl))) (a_cons (m_atW 14 (at_rate T) rfl (by first | exact Or.inl rfl | exact Or.inr (Or.inl rfl) | exact Or.inr (Or.inr rfl))) a_nil))) (a_cons (m_tup (a_cons (m_var 13) (a_cons (m_var 3) a_nil))) a_nil)) rfl))))))
 (ss_one (s_ret m_bl))
 ss_nil)
 (ss_one (s_ret (m_cmp (op_eqP (hu64 hr)) mI_eq (m_cmp op_ge mI_ge (m_var 13) (m_var 2) (nomark _)) (m_var 6) (nomark _))))))))))))
theorem sc_f_law_window : FnScope (["room", "group", "kind", "again", "k", "j", "numbers", "low", "high", "n", "middle"] : List Str) ["room", "group", "kind", "again", "k", "j", "numbers"] (defScope s_f_law_window) := ⟨rfl, rfl, rfl, by decide +kernel, rfl, by decide +kernel, by decide +kernel⟩
theorem ok_f_law_window (T : Tx K mg ad) (G_f_law_least : FnOk P w K mg base (L2.CX P w) 1 ad.a_f_law_least ad.d_f_law_least ["w", "room", "group", "backs", "again", "k", "j"] (spM K (clT ad) [false, false, false, false, false, false, false] 7 F_f_law_least)) : FnOk P w K mg base (L2.CX P w) 2 ad.a_f_law_window ad.d_f_law_window ["room", "group", "kind", "again", "k", "j", "numbers"] (spM K (clT ad) [false, false, false, false, false, false, false] 7 F_f_law_window) := by
  have nd : (["room", "group", "kind", "again", "k", "j", "numbers", "low", "high", "n", "middle"] : List Str).Nodup := sc_f_law_window.nd
  exact fn_ok (N := ["room", "group", "kind", "again", "k", "j", "numbers", "low", "high", "n", "middle"]) (nl := 4) (m := B_f_law_window) T.f_f_law_window sc_f_law_window rfl rfl (by decide) fun cdv A outer s H E e hr => (ss_cons (s_set 7 nd rfl (by first | exact Or.inl rfl | exact Or.inr rfl | exact Or.inr (Or.inl rfl)) rfl m_int)
 (ss_cons (s_set 8 nd rfl (by first | exact Or.inl rfl | exact Or.inr rfl | exact Or.inr (Or.inl rfl)) rfl m_int)
 (ss_cons (s_for (passes_of rfl) rfl (i_range1 rfl T.g_range (a_cons m_int a_nil)) (g_name 9 nd rfl (by first | exact Or.inl rfl | exact Or.inr rfl | exact Or.inr (Or.inl rfl)) rfl)
 (ss_one (s_if (t_cmp op_lt mI_lt (m_var 7) (m_var 8) (nomark _))
 (ss_cons (s_set 10 nd rfl (by first | exact Or.inl rfl | exact Or.inr rfl | exact Or.inr (Or.inl rfl)) rfl (m_op op_fdiv mI_div (m_op op_addA mI_addA (m_op op_addA mI_addA (m_var 7) (m_var 8)) m_int) m_int))
 (ss_one (s_if (t_cmp op_le mI_le (m_call (n := 7) (F := F_f_law_least) G_f_law_least (hr.mono (by decide)) (takes_of rfl rfl rfl rfl) rfl T.g_f_law_least T.k_f_law_least T.b_f_law_least (a_cons (m_var 10) (a_cons (m_var 0) (a_cons (m_var 1) (a_cons (m_var 2) (a_cons (m_var 3) (a_cons (m_var 4) (a_cons (m_var 5) a_nil))))))) rfl) (m_var 6) (nomark _))
 (ss_one (s_set 7 nd rfl (by first | exact Or.inl rfl | exact Or.inr rfl | exact Or.inr (Or.inl rfl)) rfl (m_var 10)))
 (ss_one (s_set 8 nd rfl (by first | exact Or.inl rfl | exact Or.inr rfl | exact Or.inr (Or.inl rfl)) rfl (m_op op_sub mI_sub (m_var 10) m_int))))))
 ss_nil)))
 (ss_one (s_ret (m_take 7 rfl (by first | exact Or.inl rfl | exact Or.inr (Or.inl rfl) | exact Or.inr (Or.inr rfl))))))))
theorem sc_f_largest_window : FnScope (["channel", "numbers", "r", "acks", "resend", "low", "high", "rule", "middle"] : List Str) ["channel", "numbers", "r", "acks", "resend"] (defScope s_f_largest_window) := ⟨rfl, rfl, rfl, by decide +kernel, rfl, by decide +kernel, by decide +kernel⟩
theorem ok_f_largest_window (T : Tx K mg ad) (G_f_Rule_init : FnOk P w K mg base (L2.CX P w) 3 ad.a_f_Rule_init ad.d_f_Rule_init ["self", "w", "r", "acks", "resend"] (spM K (clT ad) [true, false, false, false, false] 5 F_f_Rule_init)) (G_f_least_by_formula : FnOk P w K mg base (L2.CX P w) 4 ad.a_f_least_by_formula ad.d_f_least_by_formula ["rule", "channel"] (spM K (clT ad) [false, false] 2 F_f_least_by_formula)) (G_f_check_numbers : FnOk P w K mg base (L2.CX P w) 3 ad.a_f_check_numbers ad.d_f_check_numbers ["numbers"] (spM K (clT ad) [false] 1 F_f_check_numbers)) : FnOk P w K mg base (L2.CX P w) 5 ad.a_f_largest_window ad.d_f_largest_window ["channel", "numbers", "r", "acks", "resend"] (spM K (clT ad) [false, false, false, false, false] 5 F_f_largest_window) := by
  have nd : (["channel", "numbers", "r", "acks", "resend", "low", "high", "rule", "middle"] : List Str).Nodup := sc_f_largest_window.nd
  exact fn_ok (N := ["channel", "numbers", "r", "acks", "resend", "low", "high", "rule", "middle"]) (nl := 4) (m := B_f_largest_window) T.f_f_largest_window sc_f_largest_window rfl rfl (by decide) fun cdv A outer s H E e hr => (ss_cons (s_expr (m_call (n := 1) (F := F_f_check_numbers) G_f_check_numbers (hr.mono (by decide)) (takes_of rfl rfl rfl rfl) rfl T.g_f_check_numbers T.k_f_check_numbers T.b_f_check_numbers (a_cons (m_var 1) a_nil) rfl))
 (ss_cons (s_set 5 nd rfl (by first | exact Or.inl rfl | exact Or.inr rfl | exact Or.inr (Or.inl rfl)) rfl m_int)
 (ss_cons (s_set 6 nd rfl (by first | exact Or.inl rfl | exact Or.inr rfl | exact Or.inr (Or.inl rfl)) rfl (m_con rfl T.con_MOST_SIZE rfl))
 (ss_cons (s_set 7 nd rfl (by first | exact Or.inl rfl | exact Or.inr rfl | exact Or.inr (Or.inl rfl)) rfl (m_mk (q := 0) (n := 5) (F := F_f_Rule_init) rfl rfl T.mk_Rule G_f_Rule_init (hr.mono (by decide)) (takes_of rfl rfl rfl rfl) rfl T.g_Rule T.b_f_Rule_init (a_cons m_int (a_cons (m_var 2) (a_cons (m_var 3) (a_cons (m_var 4) a_nil))))))
 (ss_cons (s_while 100000 (passes_of rfl) (t_cmp op_lt mI_lt (m_var 5) (m_var 6) (nomark _))
 (ss_cons (s_set 8 nd rfl (by first | exact Or.inl rfl | exact Or.inr rfl | exact Or.inr (Or.inl rfl)) rfl (m_op op_fdiv mI_div (m_op op_addA mI_addA (m_op op_addA mI_addA (m_var 5) (m_var 6)) m_int) m_int))
 (ss_one (s_if (t_cmp op_le mI_le (m_call (n := 2) (F := F_f_least_by_formula) G_f_least_by_formula (hr.mono (by decide)) (takes_of rfl rfl rfl rfl) rfl T.g_f_least_by_formula T.k_f_least_by_formula T.b_f_least_by_formula (a_cons (m_mk (q := 0) (n := 5) (F := F_f_Rule_init) rfl rfl T.mk_Rule G_f_Rule_init (hr.mono (by decide)) (takes_of rfl rfl rfl rfl) rfl T.g_Rule T.b_f_Rule_init (a_cons (m_var 8) (a_cons (m_atW 7 (at_r T) rfl (by first | exact Or.inl rfl | exact Or.inr (Or.inl rfl) | exact Or.inr (Or.inr rfl))) (a_cons (m_var 3) (a_cons (m_var 4) a_nil))))) (a_cons (m_var 0) a_nil)) rfl) (m_var 1) (nomark _))
 (ss_one (s_set 5 nd rfl (by first | exact Or.inl rfl | exact Or.inr rfl | exact Or.inr (Or.inl rfl)) rfl (m_var 8)))
 (ss_one (s_set 6 nd rfl (by first | exact Or.inl rfl | exact Or.inr rfl | exact Or.inr (Or.inl rfl)) rfl (m_op op_sub mI_sub (m_var 8) m_int)))))))
 (ss_one (s_ret (m_take 5 rfl (by first | exact Or.inl rfl | exact Or.inr (Or.inl rfl) | exact Or.inr (Or.inr rfl))))))))))
theorem sc_f_law : FnScope (["script", "row", "drawn", "room", "group", "kind", "again", "ticks", "rate", "j", "size", "late", "numbers", "lifetime", "channel", "due"] : List Str) ["script"] (defScope s_f_law) := ⟨rfl, rfl, rfl, by decide +kernel, rfl, by decide +kernel, by decide +kernel⟩
theorem ok_f_law (T : Tx K mg ad) (G_f_Channel_fields : FnOk P w K mg base (L2.CX P w) 1 ad.a_f_Channel_fields ad.d_f_Channel_fields ["self"] (spM K (clT ad) [true] 1 F_f_Channel_fields)) (G_f_Lifetime_init : FnOk P w K mg base (L2.CX P w) 3 ad.a_f_Lifetime_init ad.d_f_Lifetime_init ["self", "ticks", "rate"] (spM K (clT ad) [true, false, false] 3 F_f_Lifetime_init)) (G_f_Rule_fields : FnOk P w K mg base (L2.CX P w) 1 ad.a_f_Rule_fields ad.d_f_Rule_fields ["self"] (spM K (clT ad) [true] 1 F_f_Rule_fields)) (G_f_law_least : FnOk P w K mg base (L2.CX P w) 1 ad.a_f_law_least ad.d_f_law_least ["w", "room", "group", "backs", "again", "k", "j"] (spM K (clT ad) [false, false, false, false, false, false, false] 7 F_f_law_least)) (G_f_law_life_drawn : FnOk P w K mg base (L2.CX P w) 1 ad.a_f_law_life_drawn ad.d_f_law_life_drawn ["row"] (spM K (clT ad) [false] 1 F_f_law_life_drawn)) (G_f_law_like : FnOk P w K mg base (L2.CX P w) (0 + 8) ad.a_f_law_like ad.d_f_law_like ["told", "due"] (spM K (clT ad) [false, false] 2 F_f_law_like)) (G_f_law_numbers : FnOk P w K mg base (L2.CX P w) 2 ad.a_f_law_numbers ad.d_f_law_numbers ["script", "at", "many"] (spM K (clT ad) [false, false, false] 3 F_f_law_numbers)) (G_f_law_rule_drawn : FnOk P w K mg base (L2.CX P w) 1 ad.a_f_law_rule_drawn ad.d_f_law_rule_drawn ["row"] (spM K (clT ad) [false] 1 F_f_law_rule_drawn)) (G_f_lag : FnOk P w K mg base (L2.CX P w) 1 ad.a_f_lag ad.d_f_lag ["lifetime"] (spM K (clT ad) [false] 1 F_f_lag)) (G_f_lifetime_channel : FnOk P w K mg base (L2.CX P w) 5 ad.a_f_lifetime_channel ad.d_f_lifetime_channel ["lifetime", "j"] (spM K (clT ad) [false, false] 2 F_f_lifetime_channel)) (G_f_law_side : FnOk P w K mg base (L2.CX P w) 10 ad.a_f_law_side ad.d_f_law_side ["size", "drawn", "ticks", "rate", "j", "numbers", "fits"] (spM K (clT ad) [false, false, false, false, false, false, false] 7 F_f_law_side)) (G_f_law_window : FnOk P w K mg base (L2.CX P w) 2 ad.a_f_law_window ad.d_f_law_window ["room", "group", "kind", "again", "k", "j", "numbers"] (spM K (clT ad) [false, false, false, false, false, false, false] 7 F_f_law_window)) (G_f_largest_window : FnOk P w K mg base (L2.CX P w) 5 ad.a_f_largest_window ad.d_f_largest_window ["channel", "numbers", "r", "acks", "resend"] (spM K (clT ad) [false, false, false, false, false] 5 F_f_largest_window)) : FnOk P w K mg base (L2.CX P w) 11 ad.a_f_law ad.d_f_law ["script"] (spM K (clT ad) [] 1 F_f_law) := by
  have nd : (["script", "row", "drawn", "room", "group", "kind", "again", "ticks", "rate", "j", "size", "late", "numbers", "lifetime", "channel", "due"] : List Str).Nodup := sc_f_law.nd
  exact fn_ok (N := ["script", "row", "drawn", "room", "group", "kind", "again", "ticks", "rate", "j", "size", "late", "numbers", "lifetime", "channel", "due"]) (nl := 15) (m := B_f_law) T.f_f_law sc_f_law rfl rfl (by decide) fun cdv A outer s H E e hr => (ss_cons (s_set 1 nd rfl (by first | exact Or.inl rfl | exact Or.inr rfl | exact Or.inr (Or.inl rfl)) rfl (m_call (n := 3) (F := F_f_law_numbers) G_f_law_numbers (hr.mono (by decide)) (takes_of rfl rfl rfl rfl) rfl T.g_f_law_numbers T.k_f_law_numbers T.b_f_law_numbers (a_cons (m_var 0) (a_cons m_int (a_cons m_int a_nil))) rfl))
 (ss_cons (s_set 2 nd rfl (by first | exact Or.inl rfl | exact Or.inr rfl | exact Or.inr (Or.inl rfl)) rfl (m_call (n := 1) (F := F_f_law_rule_drawn) G_f_law_rule_drawn (hr.mono (by decide)) (takes_of rfl rfl rfl rfl) rfl T.g_f_law_rule_drawn T.k_f_law_rule_drawn T.b_f_law_rule_drawn (a_cons (m_var 1) a_nil) rfl))
 (ss_cons (s_asg (m_var 2) (g_tup rfl (gs_cons (g_name 3 nd rfl (by first | exact Or.inl rfl | exact Or.inr rfl | exact Or.inr (Or.inl rfl)) rfl) (gs_cons (g_name 4 nd rfl (by first | exact Or.inl rfl | exact Or.inr rfl | exact Or.inr (Or.inl rfl)) rfl) (gs_cons (g_name 5 nd rfl (by first | exact Or.inl rfl | exact Or.inr rfl | exact Or.inr (Or.inl rfl)) rfl) (gs_cons (g_name 6 nd rfl (by first | exact Or.inl rfl | exact Or.inr rfl | exact Or.inr (Or.inl rfl)) rfl) gs_nil))))))
 (ss_cons (s_asg (m_call (n := 1) (F := F_f_law_life_drawn) G_f_law_life_drawn (hr.mono (by decide)) (takes_of rfl rfl rfl rfl) rfl T.g_f_law_life_drawn T.k_f_law_life_drawn T.b_f_law_life_drawn (a_cons (m_var 1) a_nil) rfl) (g_tup rfl (gs_cons (g_name 7 nd rfl (by first | exact Or.inl rfl | exact Or.inr rfl | exact Or.inr (Or.inl rfl)) rfl) (gs_cons (g_name 8 nd rfl (by first | exact Or.inl rfl | exact Or.inr rfl | exact Or.inr (Or.inl rfl)) rfl) gs_nil))))
 (ss_cons (s_set 9 nd rfl (by first | exact Or.inl rfl | exact Or.inr rfl | exact Or.inr (Or.inl rfl)) rfl (m_op op_mod mI_mod (m_ixW 1 rfl (by first | exact Or.inl rfl | exact Or.inr (Or.inl rfl) | exact Or.inr (Or.inr rfl)) m_int (fun _ _ => rfl)) m_int))
 (ss_cons (s_if (t_cmp (op_eqP (hu64 hr)) mI_eq (m_op op_mod mI_mod (m_ixW 1 rfl (by first | exact Or.inl rfl | exact Or.inr (Or.inl rfl) | exact Or.inr (Or.inr rfl)) m_int (fun _ _ => rfl)) m_int) m_int (nomark _))
 (ss_one (s_set 9 nd rfl (by first | exact Or.inl rfl | exact Or.inr rfl | exact Or.inr (Or.inl rfl)) rfl (m_op op_mod mI_mod (m_ixW 1 rfl (by first | exact Or.inl rfl | exact Or.inr (Or.inl rfl) | exact Or.inr (Or.inr rfl)) m_int (fun _ _ => rfl)) m_int)))
 ss_nil)
 (ss_cons (s_set 10 nd rfl (by first | exact Or.inl rfl | exact Or.inr rfl | exact Or.inr (Or.inl rfl)) rfl (m_op op_addA mI_addA m_int (m_op op_mod mI_mod (m_ixW 1 rfl (by first | exact Or.inl rfl | exact Or.inr (Or.inl rfl) | exact Or.inr (Or.inr rfl)) m_int (fun _ _ => rfl)) m_int)))
 (ss_cons (s_if (t_cmp (op_eqP (hu64 hr)) mI_eq (m_op op_mod mI_mod (m_ixW 1 rfl (by first | exact Or.inl rfl | exact Or.inr (Or.inl rfl) | exact Or.inr (Or.inr rfl)) m_int (fun _ _ => rfl)) m_int) m_int (nomark _))
 (ss_one (s_set 10 nd rfl (by first | exact Or.inl rfl | exact Or.inr rfl | exact Or.inr (Or.inl rfl)) rfl (m_op op_addA mI_addA m_int (m_op op_mod mI_mod (m_ixW 1 rfl (by first | exact Or.inl rfl | exact Or.inr (Or.inl rfl) | exact Or.inr (Or.inr rfl)) m_int (fun _ _ => rfl)) m_int))))
 ss_nil)
 (ss_cons (s_if (t_cmp (op_eqP (hu64 hr)) mI_eq (m_op op_mod mI_mod (m_ixW 1 rfl (by first | exact Or.inl rfl | exact Or.inr (Or.inl rfl) | exact Or.inr (Or.inr rfl)) m_int (fun _ _ => rfl)) m_int) m_int (nomark _))
 (ss_one (s_set 10 nd rfl (by first | exact Or.inl rfl | exact Or.inr rfl | exact Or.inr (Or.inl rfl)) rfl m_int))
 ss_nil)
 (ss_cons (s_if (t_cmp (op_eqP (hu64 hr)) mI_eq (m_op op_mod mI_mod (m_ixW 1 rfl (by first | exact Or.inl rfl | exact Or.inr (Or.inl rfl) | exact Or.inr (Or.inr rfl)) m_int (fun _ _ => rfl)) m_int) m_int (nomark _))
 (ss_one (s_set 10 nd rfl (by first | exact Or.inl rfl | exact Or.inr rfl | exact Or.inr (Or.inl rfl)) rfl (m_op op_sub mI_sub m_int (m_op op_mod mI_mod (m_ixW 1 rfl (by first | exact Or.inl rfl | exact Or.inr (Or.inl rfl) | exact Or.inr (Or.inr rfl)) m_int (fun _ _ => rfl)) m_int))))
 ss_nil)
 (ss_cons (s_set 11 nd rfl (by first | exact Or.inl rfl | exact Or.inr rfl | exact Or.inr (Or.inl rfl)) rfl (m_op op_sub mI_sub (m_op op_mul mI_mul (m_var 8) (m_op op_addA mI_addA (m_var 7) m_int)) m_int))
 (ss_cons (s_set 12 nd rfl (by first | exact Or.inl rfl | exact Or.inr rfl | exact Or.inr (Or.inl rfl)) rfl (m_op op_addA mI_addA (m_op op_sub mI_sub (m_call (n := 7) (F := F_f_law_least) G_f_law_least (hr.mono (by decide)) (takes_of rfl rfl rfl rfl) rfl T.g_f_law_least T.k_f_law_least T.b_f_law_least (a_cons (m_var 10) (a_cons (m_var 3) (a_cons (m_var 4) (a_cons (m_var 5) (a_cons (m_var 6) (a_cons (m_var 11) (a_cons (m_var 9) a_nil))))))) rfl) m_int) (m_op op_mod mI_mod (m_ixW 1 rfl (by first | exact Or.inl rfl | exact Or.inr (Or.inl rfl) | exact Or.inr (Or.inr rfl)) m_int (fun _ _ => rfl)) m_int)))
 (ss_cons (s_set 13 nd rfl (by first | exact Or.inl rfl | exact Or.inr rfl | exact Or.inr (Or.inl rfl)) rfl (m_mk (q := 2) (n := 3) (F := F_f_Lifetime_init) rfl rfl T.mk_Lifetime G_f_Lifetime_init (hr.mono (by decide)) (takes_of rfl rfl rfl rfl) rfl T.g_Lifetime T.b_f_Lifetime_init (a_cons (m_var 7) (a_cons (m_var 8) a_nil))))
 (ss_cons (s_set 14 nd rfl (by first | exact Or.inl rfl | exact Or.inr rfl | exact Or.inr (Or.inl rfl)) rfl (m_call (n := 2) (F := F_f_lifetime_channel) G_f_lifetime_channel (hr.mono (by decide)) (takes_of rfl rfl rfl rfl) rfl T.g_f_lifetime_channel T.k_f_lifetime_channel T.b_f_lifetime_channel (a_cons (m_var 13) (a_cons (m_var 9) a_nil)) rfl))
 (ss_cons (s_if (PW.pt (w_or (t_not (t_truth (m_call (n := 2) (F := F_f_law_like) G_f_law_like (hr.mono (by decide)) (takes_of rfl rfl rfl rfl) rfl T.g_f_law_like T.k_f_law_like T.b_f_law_like (a_cons (m_call (n := 1) (F := F_f_lag) G_f_lag (hr.mono (by decide)) (takes_of rfl rfl rfl rfl) rfl T.g_f_lag T.k_f_lag T.b_f_lag (a_cons (m_var 13) a_nil) rfl) (a_cons (m_var 11) a_nil)) rfl))) (w_or (t_not (t_truth (m_isi (v := .ref ad.c_Channel) (u := .ref ad.c_Channel) rfl T.g_isinstance (m_var 14) (pe_cls (by rfl) (.inr T.g_Channel) rfl) (.own _) (isc_Channel T)))) (w_or1 (t_not (t_truth (m_call (n := 2) (F := F_f_law_like) G_f_law_like (hr.mono (by decide)) (takes_of rfl rfl rfl rfl) rfl T.g_f_law_like T.k_f_law_like T.b_f_law_like (a_cons (m_case (isC 14 0) (m_methV0 14 (q := 0) (F := F_f_Rule_fields) rfl (by show ¬ ("fields" : Str) ∈ (["w", "r", "acks", "resend", "group"] : List Str); decide +kernel) rfl (by first | exact Or.inl rfl | exact Or.inr (Or.inl rfl) | exact Or.inr (Or.inr rfl)) T.cls_Rule T.me_f_Rule_fields G_f_Rule_fields (hr.mono (by decide)) (takes_of rfl rfl rfl rfl) T.b_f_Rule_fields) (m_methV0 14 (q := 1) (F := F_f_Channel_fields) rfl (by show ¬ ("fields" : Str) ∈ (["k", "j"] : List Str); decide +kernel) rfl (by first | exact Or.inl rfl | exact Or.inr (Or.inl rfl) | exact Or.inr (Or.inr rfl)) T.cls_Channel T.me_f_Channel_fields G_f_Channel_fields (hr.mono (by decide)) (takes_of rfl rfl rfl rfl) T.b_f_Channel_fields)) (a_cons (m_tup (a_cons (m_var 11) (a_cons (m_var 9) a_nil))) a_nil)) rfl)))))))
 (ss_one (s_ret m_bl))
 ss_nil)
 (ss_cons (s_set 15 nd rfl (by first | exact Or.inl rfl | exact Or.inr rfl | exact Or.inr (Or.inl rfl)) rfl (m_call (n := 7) (F := F_f_law_window) G_f_law_window (hr.mono (by decide)) (takes_of rfl rfl rfl rfl) rfl T.g_f_law_window T.k_f_law_window T.b_f_law_window (a_cons (m_var 3) (a_cons (m_var 4) (a_cons (m_var 5) (a_cons (m_var 6) (a_cons (m_var 11) (a_cons (m_var 9) (a_cons (m_var 12) a_nil))))))) rfl))
 (ss_cons (s_if (t_not (t_truth (m_call (n := 2) (F := F_f_law_like) G_f_law_like (hr.mono (by decide)) (takes_of rfl rfl rfl rfl) rfl T.g_f_law_like T.k_f_law_like T.b_f_law_like (a_cons (m_callKE (n := 2) (sel := (selOf [] [.inl 0, .inl 1, .inl 2])) G_f_largest_window rfl rfl rfl (hr.mono (by decide)) (takes_of rfl rfl rfl rfl) rfl T.g_f_largest_window T.k_f_largest_window T.kb_f_largest_window_2_r_acks_resend (a_cons (m_var 14) (a_cons (m_var 12) a_nil)) rfl (k_cons (m_var 3) (k_cons (m_var 5) (k_cons (m_var 6) k_nil))) (kw_cons (kw_cons (kw_cons kw_nil)))) (a_cons (m_var 15) a_nil)) rfl)))
 (ss_one (s_ret m_bl))
 ss_nil)
 (ss_cons (s_if (PW.pt (w_and (t_cmp op_gt mI_gt (m_var 15) m_int (nomark _)) (w_and1 (t_not (t_truth (m_call (n := 7) (F := F_f_law_side) G_f_law_side (hr.mono (by decide)) (takes_of rfl rfl rfl rfl) rfl T.g_f_law_side T.k_f_law_side T.b_f_law_side (a_cons (m_var 15) (a_cons (m_var 2) (a_cons (m_var 7) (a_cons (m_var 8) (a_cons (m_var 9) (a_cons (m_var 12) (a_cons m_bl a_nil))))))) rfl))))))
 (ss_one (s_ret m_bl))
 ss_nil)
 (ss_one (s_ret (m_or (m_cmp (op_eqP (hu64 hr)) mI_eq (m_var 15) m_int (nomark _)) (m_one (m_call (n := 7) (F := F_f_law_side) G_f_law_side (hr.mono (by decide)) (takes_of rfl rfl rfl rfl) rfl T.g_f_law_side T.k_f_law_side T.b_f_law_side (a_cons (m_op op_addA mI_addA (m_var 15) m_int) (a_cons (m_var 2) (a_cons (m_var 7) (a_cons (m_var 8) (a_cons (m_var 9) (a_cons (m_var 12) (a_cons m_bl a_nil))))))) rfl)))))))))))))))))))))))
theorem gx_BadRule {cc cda f C : Addr} {doc pm ctv oc ccl cl : Value} {od cdd cld : Option Addr} {osl ccs csl : Array (Option Value)} {vf : Array Value} {file : Str} {tf : Tok} {cdD : ClassData}
    (lk : K.lookup f = some ⟨oc, od, .func ((supNF "__init__" "BadRule.__init__" (defArgs (inClass (top 8) 0)) (defBody (inClass (top 8) 0)) (defScope (inClass (top 8) 0)) cc cda).fd doc pm ctv), osl⟩) (hcd : PySem.W.codeIn K (.ref cda) "BadRule.__init__" = true) (hcode : K.lookup cda = some ⟨ccl, cdd, .fields vf, ccs⟩) (hvs : vf[2]? = some (.str file tf)) (hfile : ((P.main.file : Str) == file) = true)
    (hcell : K.lookup cc = some ⟨cl, cld, .cell (some (.ref C)), csl⟩) (hD : PySem.W.clsIn K C = some cdD) (hsub : PySem.W.mroIn K C (.ref C) = some true) (hsuper : mg "super" = none) (ho : PySem.W.nsIn K cStatics "thirdparty.any" = some none)
    (hin : PySem.W.ks_superIn K C C "__init__" = some (some (.builtin "ValueError.__init__"))) (hve : PySem.W.subIn K (.ref C) (.type "ValueError") = some true) (htop : (P.main.scope.names.lookup ("super" : Str)).isSome = false)
    (hfs : ∀ g ∈ (["place"] : List Str), PySem.W.findIn K (.ref C) g = some none) : FnOk P w K mg base (L2.CX P w) 1 f ((supNF "__init__" "BadRule.__init__" (defArgs (inClass (top 8) 0)) (defBody (inClass (top 8) 0)) (defScope (inClass (top 8) 0)) cc cda).fd doc pm ctv) ["self", "place"] (spX K C ["place"]) :=
  fn_exc (N := ["self", "place", "__class__"]) (fps := [.c "invalid part of a rule: ", .v 1]) (self := "self") (pl := _) rfl rfl lk hcd hcode hvs hfile hcell hD hsub hsuper ho hin hve rfl rfl htop (NdefX.nscope_by (by decide +kernel)) rfl rfl rfl (by decide) (fun _ => rfl) (fun _ => rfl) (fun _ => rfl) (fun _ => rfl) (fun A o s H E => (PJ.cons pe_str (PJ.cons (pe_fmt (pe_var (i := 1) rfl (by first | exact Or.inl rfl | exact Or.inr (Or.inl rfl) | exact Or.inr (Or.inr rfl)))) PJ.nil))) (by decide +kernel) (by decide) (fun A o s H E => (PSt.cons (ps_ost (pe_var (i := 0) rfl (by first | exact Or.inl rfl | exact Or.inr (Or.inl rfl) | exact Or.inr (Or.inr rfl))) (pe_var (i := 1) rfl (by first | exact Or.inl rfl | exact Or.inr (Or.inl rfl) | exact Or.inr (Or.inr rfl)))) PSt.nil)) hfs
theorem gx_BadChannel {cc cda f C : Addr} {doc pm ctv oc ccl cl : Value} {od cdd cld : Option Addr} {osl ccs csl : Array (Option Value)} {vf : Array Value} {file : Str} {tf : Tok} {cdD : ClassData}
    (lk : K.lookup f = some ⟨oc, od, .func ((supNF "__init__" "BadChannel.__init__" (defArgs (inClass (top 9) 0)) (defBody (inClass (top 9) 0)) (defScope (inClass (top 9) 0)) cc cda).fd doc pm ctv), osl⟩) (hcd : PySem.W.codeIn K (.ref cda) "BadChannel.__init__" = true) (hcode : K.lookup cda = some ⟨ccl, cdd, .fields vf, ccs⟩) (hvs : vf[2]? = some (.str file tf)) (hfile : ((P.main.file : Str) == file) = true)
    (hcell : K.lookup cc = some ⟨cl, cld, .cell (some (.ref C)), csl⟩) (hD : PySem.W.clsIn K C = some cdD) (hsub : PySem.W.mroIn K C (.ref C) = some true) (hsuper : mg "super" = none) (ho : PySem.W.nsIn K cStatics "thirdparty.any" = some none)
    (hin : PySem.W.ks_superIn K C C "__init__" = some (some (.builtin "ValueError.__init__"))) (hve : PySem.W.subIn K (.ref C) (.type "ValueError") = some true) (htop : (P.main.scope.names.lookup ("super" : Str)).isSome = false)
    (hfs : ∀ g ∈ (["place"] : List Str), PySem.W.findIn K (.ref C) g = some none) : FnOk P w K mg base (L2.CX P w) 1 f ((supNF "__init__" "BadChannel.__init__" (defArgs (inClass (top 9) 0)) (defBody (inClass (top 9) 0)) (defScope (inClass (top 9) 0)) cc cda).fd doc pm ctv) ["self", "place"] (spX K C ["place"]) :=
  fn_exc (N := ["self", "place", "__class__"]) (fps := [.c "invalid lag of a channel: ", .v 1]) (self := "self") (pl := _) rfl rfl lk hcd hcode hvs hfile hcell hD hsub hsuper ho hin hve rfl rfl htop (NdefX.nscope_by (by decide +kernel)) rfl rfl rfl (by decide) (fun _ => rfl) (fun _ => rfl) (fun _ => rfl) (fun _ => rfl) (fun A o s H E => (PJ.cons pe_str (PJ.cons (pe_fmt (pe_var (i := 1) rfl (by first | exact Or.inl rfl | exact Or.inr (Or.inl rfl) | exact Or.inr (Or.inr rfl)))) PJ.nil))) (by decide +kernel) (by decide) (fun A o s H E => (PSt.cons (ps_ost (pe_var (i := 0) rfl (by first | exact Or.inl rfl | exact Or.inr (Or.inl rfl) | exact Or.inr (Or.inr rfl))) (pe_var (i := 1) rfl (by first | exact Or.inl rfl | exact Or.inr (Or.inl rfl) | exact Or.inr (Or.inr rfl)))) PSt.nil)) hfs
theorem gx_BadNumbers {cc cda f C : Addr} {doc pm ctv oc ccl cl : Value} {od cdd cld : Option Addr} {osl ccs csl : Array (Option Value)} {vf : Array Value} {file : Str} {tf : Tok} {cdD : ClassData}
    (lk : K.lookup f = some ⟨oc, od, .func ((supNF "__init__" "BadNumbers.__init__" (defArgs (inClass (top 10) 0)) (defBody (inClass (top 10) 0)) (defScope (inClass (top 10) 0)) cc cda).fd doc pm ctv), osl⟩) (hcd : PySem.W.codeIn K (.ref cda) "BadNumbers.__init__" = true) (hcode : K.lookup cda = some ⟨ccl, cdd, .fields vf, ccs⟩) (hvs : vf[2]? = some (.str file tf)) (hfile : ((P.main.file : Str) == file) = true)
    (hcell : K.lookup cc = some ⟨cl, cld, .cell (some (.ref C)), csl⟩) (hD : PySem.W.clsIn K C = some cdD) (hsub : PySem.W.mroIn K C (.ref C) = some true) (hsuper : mg "super" = none) (ho : PySem.W.nsIn K cStatics "thirdparty.any" = some none)
    (hin : PySem.W.ks_superIn K C C "__init__" = some (some (.builtin "ValueError.__init__"))) (hve : PySem.W.subIn K (.ref C) (.type "ValueError") = some true) (htop : (P.main.scope.names.lookup ("super" : Str)).isSome = false)
    (hfs : ∀ g ∈ (["numbers"] : List Str), PySem.W.findIn K (.ref C) g = some none) : FnOk P w K mg base (L2.CX P w) 1 f ((supNF "__init__" "BadNumbers.__init__" (defArgs (inClass (top 10) 0)) (defBody (inClass (top 10) 0)) (defScope (inClass (top 10) 0)) cc cda).fd doc pm ctv) ["self", "numbers"] (spX K C ["numbers"]) :=
  fn_exc (N := ["self", "numbers", "__class__"]) (fps := [.c "invalid count of numbers: ", .v 1]) (self := "self") (pl := _) rfl rfl lk hcd hcode hvs hfile hcell hD hsub hsuper ho hin hve rfl rfl htop (NdefX.nscope_by (by decide +kernel)) rfl rfl rfl (by decide) (fun _ => rfl) (fun _ => rfl) (fun _ => rfl) (fun _ => rfl) (fun A o s H E => (PJ.cons pe_str (PJ.cons (pe_fmt (pe_var (i := 1) rfl (by first | exact Or.inl rfl | exact Or.inr (Or.inl rfl) | exact Or.inr (Or.inr rfl)))) PJ.nil))) (by decide +kernel) (by decide) (fun A o s H E => (PSt.cons (ps_ost (pe_var (i := 0) rfl (by first | exact Or.inl rfl | exact Or.inr (Or.inl rfl) | exact Or.inr (Or.inr rfl))) (pe_var (i := 1) rfl (by first | exact Or.inl rfl | exact Or.inr (Or.inl rfl) | exact Or.inr (Or.inr rfl)))) PSt.nil)) hfs
theorem gx_BadLifetime {cc cda f C : Addr} {doc pm ctv oc ccl cl : Value} {od cdd cld : Option Addr} {osl ccs csl : Array (Option Value)} {vf : Array Value} {file : Str} {tf : Tok} {cdD : ClassData}
    (lk : K.lookup f = some ⟨oc, od, .func ((supNF "__init__" "BadLifetime.__init__" (defArgs (inClass (top 11) 0)) (defBody (inClass (top 11) 0)) (defScope (inClass (top 11) 0)) cc cda).fd doc pm ctv), osl⟩) (hcd : PySem.W.codeIn K (.ref cda) "BadLifetime.__init__" = true) (hcode : K.lookup cda = some ⟨ccl, cdd, .fields vf, ccs⟩) (hvs : vf[2]? = some (.str file tf)) (hfile : ((P.main.file : Str) == file) = true)
    (hcell : K.lookup cc = some ⟨cl, cld, .cell (some (.ref C)), csl⟩) (hD : PySem.W.clsIn K C = some cdD) (hsub : PySem.W.mroIn K C (.ref C) = some true) (hsuper : mg "super" = none) (ho : PySem.W.nsIn K cStatics "thirdparty.any" = some none)
    (hin : PySem.W.ks_superIn K C C "__init__" = some (some (.builtin "ValueError.__init__"))) (hve : PySem.W.subIn K (.ref C) (.type "ValueError") = some true) (htop : (P.main.scope.names.lookup ("super" : Str)).isSome = false)
    (hfs : ∀ g ∈ (["place"] : List Str), PySem.W.findIn K (.ref C) g = some none) : FnOk P w K mg base (L2.CX P w) 1 f ((supNF "__init__" "BadLifetime.__init__" (defArgs (inClass (top 11) 0)) (defBody (inClass (top 11) 0)) (defScope (inClass (top 11) 0)) cc cda).fd doc pm ctv) ["self", "place"] (spX K C ["place"]) :=
  fn_exc (N := ["self", "place", "__class__"]) (fps := [.c "invalid part of a lifetime: ", .v 1]) (self := "self") (pl := _) rfl rfl lk hcd hcode hvs hfile hcell hD hsub hsuper ho hin hve rfl rfl htop (NdefX.nscope_by (by decide +kernel)) rfl rfl rfl (by decide) (fun _ => rfl) (fun _ => rfl) (fun _ => rfl) (fun _ => rfl) (fun A o s H E => (PJ.cons pe_str (PJ.cons (pe_fmt (pe_var (i := 1) rfl (by first | exact Or.inl rfl | exact Or.inr (Or.inl rfl) | exact Or.inr (Or.inr rfl)))) PJ.nil))) (by decide +kernel) (by decide) (fun A o s H E => (PSt.cons (ps_ost (pe_var (i := 0) rfl (by first | exact Or.inl rfl | exact Or.inr (Or.inl rfl) | exact Or.inr (Or.inr rfl))) (pe_var (i := 1) rfl (by first | exact Or.inl rfl | exact Or.inr (Or.inl rfl) | exact Or.inr (Or.inr rfl)))) PSt.nil)) hfs
theorem all (T : Tx K mg ad) (GX_BadRule : FnOk P w K mg base (L2.CX P w) 1 ad.xi_BadRule ad.xd_BadRule ["self", "place"] (spX K ad.c_BadRule ["place"])) (GX_BadChannel : FnOk P w K mg base (L2.CX P w) 1 ad.xi_BadChannel ad.xd_BadChannel ["self", "place"] (spX K ad.c_BadChannel ["place"])) (GX_BadNumbers : FnOk P w K mg base (L2.CX P w) 1 ad.xi_BadNumbers ad.xd_BadNumbers ["self", "numbers"] (spX K ad.c_BadNumbers ["numbers"])) (GX_BadLifetime : FnOk P w K mg base (L2.CX P w) 1 ad.xi_BadLifetime ad.xd_BadLifetime ["self", "place"] (spX K ad.c_BadLifetime ["place"])) : FnOk P w K mg base (L2.CX P w) 11 ad.a_f_law ad.d_f_law ["script"] (spM K (clT ad) [] 1 F_f_law) := by
  have G_f_Channel_fields : FnOk P w K mg base (L2.CX P w) 1 ad.a_f_Channel_fields ad.d_f_Channel_fields ["self"] (spM K (clT ad) [true] 1 F_f_Channel_fields) := ok_f_Channel_fields T
  have G_f_Lifetime_init : FnOk P w K mg base (L2.CX P w) 3 ad.a_f_Lifetime_init ad.d_f_Lifetime_init ["self", "ticks", "rate"] (spM K (clT ad) [true, false, false] 3 F_f_Lifetime_init) := ok_f_Lifetime_init T GX_BadLifetime
  have G_f_Rule_fields : FnOk P w K mg base (L2.CX P w) 1 ad.a_f_Rule_fields ad.d_f_Rule_fields ["self"] (spM K (clT ad) [true] 1 F_f_Rule_fields) := ok_f_Rule_fields T
  have G_f_law_least : FnOk P w K mg base (L2.CX P w) 1 ad.a_f_law_least ad.d_f_law_least ["w", "room", "group", "backs", "again", "k", "j"] (spM K (clT ad) [false, false, false, false, false, false, false] 7 F_f_law_least) := ok_f_law_least T
  have G_f_law_life_drawn : FnOk P w K mg base (L2.CX P w) 1 ad.a_f_law_life_drawn ad.d_f_law_life_drawn ["row"] (spM K (clT ad) [false] 1 F_f_law_life_drawn) := ok_f_law_life_drawn T
  have G_f_law_like : FnOk P w K mg base (L2.CX P w) (0 + 8) ad.a_f_law_like ad.d_f_law_like ["told", "due"] (spM K (clT ad) [false, false] 2 F_f_law_like) := (ok_f_law_like T 8)
  have G_f_law_cell : FnOk P w K mg base (L2.CX P w) 1 ad.a_f_law_cell ad.d_f_law_cell ["script", "k"] (spM K (clT ad) [false, false] 2 F_f_law_cell) := ok_f_law_cell T
  have G_f_law_mix : FnOk P w K mg base (L2.CX P w) 1 ad.a_f_law_mix ad.d_f_law_mix ["seed", "k"] (spM K (clT ad) [false, false] 2 F_f_law_mix) := ok_f_law_mix T
  have G_f_law_numbers : FnOk P w K mg base (L2.CX P w) 2 ad.a_f_law_numbers ad.d_f_law_numbers ["script", "at", "many"] (spM K (clT ad) [false, false, false] 3 F_f_law_numbers) := ok_f_law_numbers T G_f_law_cell G_f_law_mix
  have G_f_law_rule_drawn : FnOk P w K mg base (L2.CX P w) 1 ad.a_f_law_rule_drawn ad.d_f_law_rule_drawn ["row"] (spM K (clT ad) [false] 1 F_f_law_rule_drawn) := ok_f_law_rule_drawn T
  have G_f_group_of : FnOk P w K mg base (L2.CX P w) 1 ad.a_f_group_of ad.d_f_group_of ["acks"] (spM K (clT ad) [false] 1 F_f_group_of) := ok_f_group_of T
  have G_f_Rule_init : FnOk P w K mg base (L2.CX P w) 3 ad.a_f_Rule_init ad.d_f_Rule_init ["self", "w", "r", "acks", "resend"] (spM K (clT ad) [true, false, false, false, false] 5 F_f_Rule_init) := ok_f_Rule_init T GX_BadRule G_f_group_of
  have G_f_law_longest : FnOk P w K mg base (L2.CX P w) 2 ad.a_f_law_longest ad.d_f_law_longest ["size", "room", "group", "kind", "again", "rate", "j", "numbers"] (spM K (clT ad) [false, false, false, false, false, false, false, false] 8 F_f_law_longest) := ok_f_law_longest T G_f_law_least
  have G_f_resends_base : FnOk P w K mg base (L2.CX P w) 1 ad.a_f_resends_base ad.d_f_resends_base ["rule"] (spM K (clT ad) [false] 1 F_f_resends_base) := ok_f_resends_base T
  have G_f_gain_of : FnOk P w K mg base (L2.CX P w) 2 ad.a_f_gain_of ad.d_f_gain_of ["rule", "channel"] (spM K (clT ad) [false, false] 2 F_f_gain_of) := ok_f_gain_of T G_f_resends_base
  have G_f_growth : FnOk P w K mg base (L2.CX P w) 3 ad.a_f_growth ad.d_f_growth ["rule", "channel"] (spM K (clT ad) [false, false] 2 F_f_growth) := ok_f_growth T G_f_gain_of
  have G_f_reach_of : FnOk P w K mg base (L2.CX P w) 2 ad.a_f_reach_of ad.d_f_reach_of ["rule"] (spM K (clT ad) [false] 1 F_f_reach_of) := ok_f_reach_of T G_f_resends_base
  have G_f_least_by_formula : FnOk P w K mg base (L2.CX P w) 4 ad.a_f_least_by_formula ad.d_f_least_by_formula ["rule", "channel"] (spM K (clT ad) [false, false] 2 F_f_least_by_formula) := ok_f_least_by_formula T G_f_growth G_f_reach_of
  have G_f_Channel_init : FnOk P w K mg base (L2.CX P w) 3 ad.a_f_Channel_init ad.d_f_Channel_init ["self", "k", "j"] (spM K (clT ad) [true, false, false] 3 F_f_Channel_init) := ok_f_Channel_init T GX_BadChannel
  have G_f_lag : FnOk P w K mg base (L2.CX P w) 1 ad.a_f_lag ad.d_f_lag ["lifetime"] (spM K (clT ad) [false] 1 F_f_lag) := ok_f_lag T
  have G_f_lifetime_channel : FnOk P w K mg base (L2.CX P w) 5 ad.a_f_lifetime_channel ad.d_f_lifetime_channel ["lifetime", "j"] (spM K (clT ad) [false, false] 2 F_f_lifetime_channel) := ok_f_lifetime_channel T G_f_Channel_init G_f_lag
  have G_f_least_for_lifetime : FnOk P w K mg base (L2.CX P w) 6 ad.a_f_least_for_lifetime ad.d_f_least_for_lifetime ["rule", "lifetime", "j"] (spM K (clT ad) [false, false, false] 3 F_f_least_for_lifetime) := ok_f_least_for_lifetime T G_f_least_by_formula G_f_lifetime_channel
  have G_f_check_numbers : FnOk P w K mg base (L2.CX P w) 3 ad.a_f_check_numbers ad.d_f_check_numbers ["numbers"] (spM K (clT ad) [false] 1 F_f_check_numbers) := ok_f_check_numbers T GX_BadNumbers
  have G_f_longest_lifetime : FnOk P w K mg base (L2.CX P w) 7 ad.a_f_longest_lifetime ad.d_f_longest_lifetime ["rule", "rate", "j", "numbers"] (spM K (clT ad) [false, false, false, false] 4 F_f_longest_lifetime) := ok_f_longest_lifetime T G_f_Lifetime_init G_f_least_for_lifetime G_f_check_numbers
  have G_f_law_side : FnOk P w K mg base (L2.CX P w) 10 ad.a_f_law_side ad.d_f_law_side ["size", "drawn", "ticks", "rate", "j", "numbers", "fits"] (spM K (clT ad) [false, false, false, false, false, false, false] 7 F_f_law_side) := ok_f_law_side T G_f_Lifetime_init G_f_law_least G_f_law_like G_f_Rule_init G_f_law_longest G_f_least_for_lifetime G_f_longest_lifetime
  have G_f_law_window : FnOk P w K mg base (L2.CX P w) 2 ad.a_f_law_window ad.d_f_law_window ["room", "group", "kind", "again", "k", "j", "numbers"] (spM K (clT ad) [false, false, false, false, false, false, false] 7 F_f_law_window) := ok_f_law_window T G_f_law_least
  have G_f_largest_window : FnOk P w K mg base (L2.CX P w) 5 ad.a_f_largest_window ad.d_f_largest_window ["channel", "numbers", "r", "acks", "resend"] (spM K (clT ad) [false, false, false, false, false] 5 F_f_largest_window) := ok_f_largest_window T G_f_Rule_init G_f_least_by_formula G_f_check_numbers
  have G_f_law : FnOk P w K mg base (L2.CX P w) 11 ad.a_f_law ad.d_f_law ["script"] (spM K (clT ad) [] 1 F_f_law) := ok_f_law T G_f_Channel_fields G_f_Lifetime_init G_f_Rule_fields G_f_law_least G_f_law_life_drawn G_f_law_like G_f_law_numbers G_f_law_rule_drawn G_f_lag G_f_lifetime_channel G_f_law_side G_f_law_window G_f_largest_window
  exact G_f_law
end
end Lw

namespace Lw
open PySem Pm
theorem mix_ok (s k : Int) (hk : 0 ≤ k ∧ k < 1000000000) : ∃ r, F_f_law_mix [.int s, .int k] = .ok (.int r) [] ∧ 0 ≤ r := by
  obtain ⟨r, ps, h, i, rfl, rfl, hi⟩ := def_ex (b := B_f_law_mix) (nl := 2) (mk := [false, false]) (ds := [.int s, .int k]) (env := [.int s, .int k, .un, .un]) (fun r ps => ∃ i, r = .int i ∧ ps = [] ∧ 0 ≤ i) rfl (by
    unfold B_f_law_mix
    (with_reducible (refine wp_sSeq ?_; refine wp_sSet ?_; refine wp_eBin ?_; refine wp_eB ?_; refine wp_aCons ?_; refine wp_eBin ?_; refine wp_eBin ?_; refine wp_eB ?_; refine wp_aCons ?_; refine wp_eTk ?_; refine gv_0 ?_; refine nu_int ?_; refine st_0 ?_; refine wp_aNil ?_; refine o_intI ?_; refine pbk_s ?_; refine st_0 ?_; refine pbk_0 ?_; refine wp_eC ?_; refine o_mul (by omega) ?_; refine wp_eBin ?_; refine wp_eBin ?_; refine wp_eV ?_; refine gv_s ?_; refine gv_0 ?_; refine nu_int ?_; refine fz_int ?_; refine st_s ?_; refine st_0 ?_; refine wp_eC ?_; refine o_add ?_; refine wp_eC ?_; refine o_mul (by omega) ?_; refine o_add ?_; refine wp_aNil ?_; refine o_intI ?_; refine pbk_n ?_; refine pbk_0 ?_; refine wp_eC ?_; refine o_mod (by omega) ?_; refine st_s ?_; refine st_s ?_; refine st_0 ?_; refine sq_nx ?_; refine wp_sSeq ?_; refine wp_sSet ?_; refine wp_eBin ?_; refine wp_eB ?_; refine wp_aCons ?_; refine wp_eBin ?_; refine wp_eBin ?_; refine wp_eV ?_; refine gv_s ?_; refine gv_s ?_; refine gv_0 ?_; refine nu_int ?_; refine fz_int ?_; refine st_s ?_; refine st_s ?_; refine st_0 ?_; refine wp_eV ?_; refine gv_s ?_; refine gv_s ?_; refine gv_0 ?_; refine nu_int ?_; refine fz_int ?_; refine st_s ?_; refine st_s ?_; refine st_0 ?_; refine o_mul (by omega) ?_; refine wp_eBin ?_; refine wp_eBin ?_; refine wp_eV ?_; refine gv_s ?_; refine gv_0 ?_; refine nu_int ?_; refine fz_int ?_; refine st_s ?_; refine st_0 ?_; refine wp_eC ?_; refine o_add ?_; refine wp_eC ?_; refine o_mul (by omega) ?_; refine o_add ?_; refine wp_aNil ?_; refine o_intI ?_; refine pbk_n ?_; refine pbk_0 ?_; refine wp_eC ?_; refine o_mod (by omega) ?_; refine st_s ?_; refine st_s ?_; refine st_s ?_; refine st_0 ?_; refine sq_nx ?_; refine wp_sRt ?_; refine wp_eBin ?_; refine wp_eBin ?_; refine wp_eB ?_; refine wp_aCons ?_; refine wp_eBin ?_; refine wp_eBin ?_; refine wp_eV ?_; refine gv_s ?_; refine gv_s ?_; refine gv_s ?_; refine gv_0 ?_; refine nu_int ?_; refine fz_int ?_; refine st_s ?_; refine st_s ?_; refine st_s ?_; refine st_0 ?_; refine wp_eV ?_; refine gv_s ?_; refine gv_s ?_; refine gv_s ?_; refine gv_0 ?_; refine nu_int ?_; refine fz_int ?_; refine st_s ?_; refine st_s ?_; refine st_s ?_; refine st_0 ?_; refine o_mul (by omega) ?_; refine wp_eV ?_; refine gv_s ?_; refine gv_s ?_; refine gv_0 ?_; refine nu_int ?_; refine fz_int ?_; refine st_s ?_; refine st_s ?_; refine st_0 ?_; refine o_add ?_; refine wp_aNil ?_; refine o_intI ?_; refine pbk_n ?_; refine pbk_0 ?_; refine wp_eC ?_; refine o_mod (by omega) ?_; refine wp_eC ?_; refine o_div (by omega) ?_; refine endP_rt (by with_unfolding_all rfl) ?_))
    exact ⟨_, rfl, rfl, Int.ediv_nonneg (Int.emod_nonneg _ (by decide)) (by decide)⟩)
  exact ⟨i, h, hi⟩
def cell (ns : List Int) (k : Int) : Int := if k < ns.length then ns.getD k.toNat 0 else 0
theorem cell_ok (ns : List Int) (k : Int) (hk : 0 ≤ k) : F_f_law_cell [intsD ns, .int k] = .ok (.int (cell ns k)) [] := by
  refine def_ok (env := [intsD ns, .int k]) rfl ?_
  unfold B_f_law_cell intsD
  (with_reducible (refine wp_sSeq ?_; refine wp_sIf ?_; refine wp_qB ?_; refine wp_eBin ?_; refine wp_eV ?_; refine gv_s ?_; refine gv_0 ?_; refine nu_int ?_; refine fz_int ?_; refine st_s ?_; refine st_0 ?_; refine wp_eB ?_; refine wp_aCons ?_; refine wp_eTk ?_; refine gv_0 ?_; refine nu_lst ?_; refine st_0 ?_; refine wp_aNil ?_; refine o_lenIL ?_; refine pbk_s ?_; refine st_0 ?_; refine pbk_0 ?_; refine o_lt ?_; refine o_toB ?_))
  (focus (refine br_d (fun h => ?_) (fun h => ?_); rotate_left; (with_reducible (refine wp_sNx ?_; refine sq_nx ?_; refine wp_sRt ?_; refine wp_eC ?_; refine endF_rt (by with_unfolding_all rfl) (by with_unfolding_all rfl) ?_)); rotate_left; (with_reducible (refine wp_sRt ?_; refine wp_eIxW ?_; refine gv_0 ?_; refine nu_lst ?_; refine wp_eV ?_; refine gv_s ?_; refine gv_0 ?_; refine nu_int ?_; refine fz_int ?_; refine st_s ?_; refine st_0 ?_; refine gv_0 ?_; refine nu_lst ?_; refine o_ixIL (by omega) (by omega) ?_; refine br_isO (by with_unfolding_all rfl) ?_; refine sq_rt ?_; refine endF_rt (by with_unfolding_all rfl) (by with_unfolding_all rfl) ?_))))
  · unfold cell
    rw [if_pos h]
  · unfold cell
    rw [if_neg h]
theorem numbers_ok (ns : List Int) (at_ many : Int) (ha : 0 ≤ at_ ∧ at_ ≤ 1000) (hm : 0 ≤ many ∧ many ≤ 1000) : ∃ row : List Int, row.length = many.toNat ∧ (∀ z ∈ row, 0 ≤ z) ∧ F_f_law_numbers [intsD ns, .int at_, .int many] = .ok (.olst (row.map D.int)) [] := by
  obtain ⟨r, ps, h, row, rfl, rfl, hl, hz⟩ := def_ex (b := B_f_law_numbers) (nl := 3) (mk := [false, false, false]) (ds := [intsD ns, .int at_, .int many]) (env := [intsD ns, .int at_, .int many, .un, .un, .un]) (fun r ps => ∃ row : List Int, r = .olst (row.map D.int) ∧ ps = [] ∧ row.length = many.toNat ∧ ∀ z ∈ row, 0 ≤ z) rfl (by
    unfold B_f_law_numbers intsD
    (with_reducible (refine wp_sSeq ?_; refine wp_sSet ?_; refine wp_eLst ?_; refine wp_aNil ?_; refine len_ok (by with_unfolding_all rfl) ?_; refine st_s ?_; refine st_s ?_; refine st_s ?_; refine st_0 ?_; refine sq_nx ?_; refine wp_sSeq ?_; refine wp_sSet ?_; refine wp_eB ?_; refine wp_aCons ?_; refine wp_eCall ?_; refine wp_aCons ?_; refine wp_eV ?_; refine gv_0 ?_; refine nu_lst ?_; refine fz_lst ?_; refine st_0 ?_; refine wp_aCons ?_; refine wp_eV ?_; refine gv_s ?_; refine gv_0 ?_; refine nu_int ?_; refine fz_int ?_; refine st_s ?_; refine st_0 ?_; refine wp_aNil ?_))
    refine fF_of (cell_ok ns at_ (by omega)) ?_
    (with_reducible (refine pbc_n ?_; refine pbc_n ?_; refine pbc_0 ?_; refine wp_aNil ?_; refine o_absB ?_; refine pbk_n ?_; refine pbk_0 ?_; refine st_s ?_; refine st_s ?_; refine st_s ?_; refine st_s ?_; refine st_0 ?_; refine sq_nx ?_))
    refine wp_cut (fun e => ∃ (row : List Int) (c : Int) (k : D), row.length ≤ many.toNat ∧ (0 ≤ c ∧ ∀ z ∈ row, 0 ≤ z) ∧ e = [.lst (ns.map D.int), .int at_, .int many, .olst (row.map D.int), .int c, k]) ?_ ?_
    · (with_reducible (refine wp_sIf ?_; refine wp_qB ?_; refine wp_eBin ?_; refine wp_eV ?_; refine gv_s ?_; refine gv_s ?_; refine gv_s ?_; refine gv_s ?_; refine gv_0 ?_; refine nu_int ?_; refine fz_int ?_; refine st_s ?_; refine st_s ?_; refine st_s ?_; refine st_s ?_; refine st_0 ?_; refine wp_eBin ?_; refine wp_eC ?_; refine wp_eC ?_; refine o_pow (by decide) ?_; refine o_ge ?_; refine o_toB ?_))
      (focus (refine br_d (fun h => ?_) (fun h => ?_); rotate_left; (with_reducible (refine wp_sNx ?_; refine ⟨by with_unfolding_all rfl, ?_⟩)); rotate_left; (with_reducible (refine wp_sFor ?_; refine wp_iRg1 ?_; refine wp_aCons ?_; refine wp_eV ?_; refine gv_s ?_; refine gv_s ?_; refine gv_0 ?_; refine nu_int ?_; refine fz_int ?_; refine st_s ?_; refine st_s ?_; refine st_0 ?_; refine wp_aNil ?_; refine o_rng1 (by omega) ?_))))
      · refine wp_loop (fun i e => ∃ (row : List Int) (c : Int) (k : D), row.length ≤ i ∧ (0 ≤ c ∧ ∀ z ∈ row, 0 ≤ z) ∧ e = [.lst (ns.map D.int), .int at_, .int many, .olst (row.map D.int), .int c, k]) _ ?_ ?_ ⟨[], _, _, Nat.zero_le _, ⟨by split <;> omega, (fun _ h => nomatch h)⟩, rfl⟩
        · rintro i d env hd ⟨row, c, k, hl, hc, rfl⟩
          obtain ⟨rfl, hlt⟩ := rng_at hd
          (with_reducible (refine wp_gN ?_; refine st_s ?_; refine st_s ?_; refine st_s ?_; refine st_s ?_; refine st_s ?_; refine st_0 ?_; refine wp_sIf ?_; refine wp_qB ?_; refine wp_eBin ?_; refine wp_eV ?_; refine gv_s ?_; refine gv_s ?_; refine gv_s ?_; refine gv_s ?_; refine gv_0 ?_; refine nu_int ?_; refine fz_int ?_; refine st_s ?_; refine st_s ?_; refine st_s ?_; refine st_s ?_; refine st_0 ?_; refine wp_eC ?_; refine o_gt ?_; refine o_toB ?_))
          (focus (refine br_d (fun h => ?_) (fun h => ?_); rotate_left; (with_reducible (refine wp_sNx ?_; dsimp only)); rotate_left; (with_reducible (refine wp_sSeq ?_; refine wp_sEx ?_; refine wp_eApp ?_; refine gi_s ?_; refine gi_s ?_; refine gi_s ?_; refine gi_0 ?_; refine ol_o ?_; refine wp_eBin ?_; refine wp_eB ?_; refine wp_aCons ?_; refine wp_eTk ?_; refine gv_s ?_; refine gv_s ?_; refine gv_s ?_; refine gv_s ?_; refine gv_0 ?_; refine nu_int ?_; refine st_s ?_; refine st_s ?_; refine st_s ?_; refine st_s ?_; refine st_0 ?_; refine wp_aNil ?_; refine o_intI ?_; refine pbk_s ?_; refine st_s ?_; refine st_s ?_; refine st_s ?_; refine st_s ?_; refine st_0 ?_; refine pbk_0 ?_; refine wp_eC ?_; refine o_mod (by omega) ?_; refine gi_s ?_; refine gi_s ?_; refine gi_s ?_; refine gi_0 ?_; refine ol_o ?_; refine lenI_lt (by omega) ?_; refine st_s ?_; refine st_s ?_; refine st_s ?_; refine st_0 ?_; refine sq_nx ?_; refine wp_sSet ?_; refine wp_eBin ?_; refine wp_eB ?_; refine wp_aCons ?_; refine wp_eTk ?_; refine gv_s ?_; refine gv_s ?_; refine gv_s ?_; refine gv_s ?_; refine gv_0 ?_; refine nu_int ?_; refine st_s ?_; refine st_s ?_; refine st_s ?_; refine st_s ?_; refine st_0 ?_; refine wp_aNil ?_; refine o_intI ?_; refine pbk_s ?_; refine st_s ?_; refine st_s ?_; refine st_s ?_; refine st_s ?_; refine st_0 ?_; refine pbk_0 ?_; refine wp_eC ?_; refine o_div (by omega) ?_; refine st_s ?_; refine st_s ?_; refine st_s ?_; refine st_s ?_; refine st_0 ?_; dsimp only))))
          · exact ⟨row ++ [c % 1009], c / 1009, .int (0 + (i : Nat)), by rw [List.length_append, List.length_singleton]; omega, ⟨Int.ediv_nonneg hc.1 (by decide), fun z hz => (List.mem_append.mp hz).elim (hc.2 z) fun hz => by rw [List.mem_singleton.mp hz]; exact Int.emod_nonneg _ (by decide)⟩, by rw [List.map_append]; rfl⟩
          · exact ⟨row, c, _, by omega, hc, rfl⟩
        · rintro env ⟨row, c, k, hl, hc, rfl⟩
          exact ⟨rfl, row, c, k, by rw [rng_len] at hl; omega, hc, rfl⟩
      · exact ⟨[], _, _, Nat.zero_le _, ⟨by split <;> omega, (fun _ h => nomatch h)⟩, rfl⟩
    · rintro e ⟨row, c, k, hl, hc, rfl⟩
      (with_reducible (refine wp_sSeq ?_; refine wp_sFor ?_; refine wp_iRg2 ?_; refine wp_aCons ?_; refine wp_eB ?_; refine wp_aCons ?_; refine wp_eTk ?_; refine gv_s ?_; refine gv_s ?_; refine gv_s ?_; refine gv_0 ?_; refine nu_olst ?_; refine st_s ?_; refine st_s ?_; refine st_s ?_; refine st_0 ?_; refine wp_aNil ?_; refine o_lenIO ?_; refine pbk_s ?_; refine st_s ?_; refine st_s ?_; refine st_s ?_; refine st_0 ?_; refine pbk_0 ?_; refine wp_aCons ?_; refine wp_eV ?_; refine gv_s ?_; refine gv_s ?_; refine gv_0 ?_; refine nu_int ?_; refine fz_int ?_; refine st_s ?_; refine st_s ?_; refine st_0 ?_; refine wp_aNil ?_; refine o_rng2 (by omega) ?_))
      refine wp_loop (fun i e => ∃ (row' : List Int) (k : D), row'.length = row.length + i ∧ (∀ z ∈ row', 0 ≤ z) ∧ e = [.lst (ns.map D.int), .int at_, .int many, .olst (row'.map D.int), .int c, k]) _ ?_ ?_ ⟨row, _, rfl, hc.2, rfl⟩
      · rintro i d env hd ⟨row', k, hl2, hc2, rfl⟩
        obtain ⟨rfl, hlt⟩ := rng_at hd
        (with_reducible (refine wp_gN ?_; refine st_s ?_; refine st_s ?_; refine st_s ?_; refine st_s ?_; refine st_s ?_; refine st_0 ?_; refine wp_sEx ?_; refine wp_eApp ?_; refine gi_s ?_; refine gi_s ?_; refine gi_s ?_; refine gi_0 ?_; refine ol_o ?_; refine wp_eCall ?_; refine wp_aCons ?_; refine wp_eCall ?_; refine wp_aCons ?_; refine wp_eV ?_; refine gv_0 ?_; refine nu_lst ?_; refine fz_lst ?_; refine st_0 ?_; refine wp_aCons ?_; refine wp_eBin ?_; refine wp_eBin ?_; refine wp_eV ?_; refine gv_s ?_; refine gv_0 ?_; refine nu_int ?_; refine fz_int ?_; refine st_s ?_; refine st_0 ?_; refine wp_eV ?_; refine gv_s ?_; refine gv_s ?_; refine gv_s ?_; refine gv_s ?_; refine gv_s ?_; refine gv_0 ?_; refine nu_int ?_; refine fz_int ?_; refine st_s ?_; refine st_s ?_; refine st_s ?_; refine st_s ?_; refine st_s ?_; refine st_0 ?_; refine o_add ?_; refine wp_eB ?_; refine wp_aCons ?_; refine wp_eC ?_; refine wp_aCons ?_; refine wp_eB ?_; refine wp_aCons ?_; refine wp_eTk ?_; refine gv_0 ?_; refine nu_lst ?_; refine st_0 ?_; refine wp_aNil ?_; refine o_lenIL ?_; refine pbk_s ?_; refine st_0 ?_; refine pbk_0 ?_; refine wp_aNil ?_; refine o_maxB ?_; refine pbk_n ?_; refine pbk_n ?_; refine pbk_0 ?_; refine o_mod (by omega) ?_; refine wp_aNil ?_))
        refine fF_of (cell_ok ns _ (Int.emod_nonneg _ (by split <;> omega))) ?_
        (with_reducible (refine pbc_n ?_; refine pbc_n ?_; refine pbc_0 ?_; refine wp_aCons ?_; refine wp_eBin ?_; refine wp_eV ?_; refine gv_s ?_; refine gv_0 ?_; refine nu_int ?_; refine fz_int ?_; refine st_s ?_; refine st_0 ?_; refine wp_eV ?_; refine gv_s ?_; refine gv_s ?_; refine gv_s ?_; refine gv_s ?_; refine gv_s ?_; refine gv_0 ?_; refine nu_int ?_; refine fz_int ?_; refine st_s ?_; refine st_s ?_; refine st_s ?_; refine st_s ?_; refine st_s ?_; refine st_0 ?_; refine o_add ?_; refine wp_aNil ?_))
        obtain ⟨z, hz, hz0⟩ := mix_ok (cell ns ((at_ + ((row.length : Int) + (i : Int))) % if (ns.length : Int) > 1 then (ns.length : Int) else 1)) (at_ + ((row.length : Int) + (i : Int))) (by omega)
        refine fF_of hz ?_
        (with_reducible (refine pbc_n ?_; refine pbc_n ?_; refine pbc_0 ?_; refine gi_s ?_; refine gi_s ?_; refine gi_s ?_; refine gi_0 ?_; refine ol_o ?_; refine lenI_lt (by omega) ?_; refine st_s ?_; refine st_s ?_; refine st_s ?_; refine st_0 ?_; dsimp only))
        exact ⟨row' ++ [z], _, by rw [List.length_append, List.length_singleton]; omega, fun w hw => (List.mem_append.mp hw).elim (hc2 w) fun hw => by rw [List.mem_singleton.mp hw]; exact hz0, by rw [List.map_append]; rfl⟩
      · rintro env ⟨row', k, hl2, hc2, rfl⟩
        (with_reducible (refine sq_nx ?_; refine wp_sRt ?_; refine wp_eTk ?_; refine gv_s ?_; refine gv_s ?_; refine gv_s ?_; refine gv_0 ?_; refine nu_olst ?_; refine st_s ?_; refine st_s ?_; refine st_s ?_; refine st_0 ?_; refine endP_rt (by with_unfolding_all rfl) ?_))
        exact ⟨row', rfl, rfl, by rw [rng_len] at hl2; omega, hc2⟩)
  exact ⟨row, hl, hz, h⟩
theorem getD_nn {row : List Int} (h : ∀ z ∈ row, 0 ≤ z) (k : Nat) : 0 ≤ row.getD k 0 := by
  rw [List.getD_eq_getElem?_getD]
  cases e : row[k]? with
  | none => simp
  | some z => simpa using h z (List.mem_of_getElem? e)
theorem like_int (n : Nat) {a b : Int} : R_f_law_like (n + 1) [.int a, .int b] = .ok (.bl (decide (a = b))) [] := by
  refine def_ok (env := [.int a, .int b, .un]) rfl ?_
  unfold B_f_law_like
  (with_reducible (refine wp_sSeq ?_; refine wp_sIf ?_; refine wp_qB ?_; refine wp_eIsN ?_; refine wp_eV ?_; refine gv_s ?_; refine gv_0 ?_; refine nu_int ?_; refine fz_int ?_; refine st_s ?_; refine st_0 ?_; refine o_isNi ?_; refine o_toB ?_; refine br_f ?_; refine wp_sNx ?_; refine sq_nx ?_; refine wp_sSeq ?_; refine wp_sIf ?_; refine wp_qOr ?_; refine wp_qT ?_; refine wp_eIsi ?_; refine wp_eV ?_; refine gv_s ?_; refine gv_0 ?_; refine nu_int ?_; refine fz_int ?_; refine st_s ?_; refine st_0 ?_; refine o_isi (by with_unfolding_all rfl) ?_; refine o_truB ?_; refine br_f ?_; refine wp_qT ?_; refine wp_eIsi ?_; refine wp_eV ?_; refine gv_0 ?_; refine nu_int ?_; refine fz_int ?_; refine st_0 ?_; refine o_isi (by with_unfolding_all rfl) ?_; refine o_truB ?_; refine br_f ?_; refine wp_sNx ?_; refine sq_nx ?_; refine wp_sSeq ?_; refine wp_sIf ?_; refine wp_qOr ?_; refine wp_qT ?_; refine wp_eIsi ?_; refine wp_eV ?_; refine gv_s ?_; refine gv_0 ?_; refine nu_int ?_; refine fz_int ?_; refine st_s ?_; refine st_0 ?_; refine o_isi (by with_unfolding_all rfl) ?_; refine o_truB ?_; refine br_f ?_; refine wp_qT ?_; refine wp_eIsi ?_; refine wp_eV ?_; refine gv_s ?_; refine gv_0 ?_; refine nu_int ?_; refine fz_int ?_; refine st_s ?_; refine st_0 ?_; refine o_isi (by with_unfolding_all rfl) ?_; refine o_truB ?_; refine br_t ?_; refine wp_sRt ?_; refine wp_eAnd ?_; refine wp_eBin ?_; refine wp_eIsi ?_; refine wp_eV ?_; refine gv_0 ?_; refine nu_int ?_; refine fz_int ?_; refine st_0 ?_; refine o_isi (by with_unfolding_all rfl) ?_; refine wp_eIsi ?_; refine wp_eV ?_; refine gv_s ?_; refine gv_0 ?_; refine nu_int ?_; refine fz_int ?_; refine st_s ?_; refine st_0 ?_; refine o_isi (by with_unfolding_all rfl) ?_; refine o_eqB ?_; refine o_toB ?_; refine br_beqT (by with_unfolding_all rfl) ?_; refine wp_eAnd ?_; refine wp_eIsi ?_; refine wp_eV ?_; refine gv_0 ?_; refine nu_int ?_; refine fz_int ?_; refine st_0 ?_; refine o_isi (by with_unfolding_all rfl) ?_; refine o_toB ?_; refine br_t ?_; refine wp_eBin ?_; refine wp_eV ?_; refine gv_0 ?_; refine nu_int ?_; refine fz_int ?_; refine st_0 ?_; refine wp_eV ?_; refine gv_s ?_; refine gv_0 ?_; refine nu_int ?_; refine fz_int ?_; refine st_s ?_; refine st_0 ?_; refine o_eqI ?_; refine sq_rt ?_; refine endF_rt (by with_unfolding_all rfl) (by with_unfolding_all rfl) ?_))
  rfl
theorem like_str (n : Nat) {a b : Str} : R_f_law_like (n + 1) [.str a, .str b] = .ok (.bl (decide (a = b))) [] := by
  refine def_ok (env := [.str a, .str b, .un]) rfl ?_
  unfold B_f_law_like
  (with_reducible (refine wp_sSeq ?_; refine wp_sIf ?_; refine wp_qB ?_; refine wp_eIsN ?_; refine wp_eV ?_; refine gv_s ?_; refine gv_0 ?_; refine nu_str ?_; refine fz_str ?_; refine st_s ?_; refine st_0 ?_; refine o_isNs ?_; refine o_toB ?_; refine br_f ?_; refine wp_sNx ?_; refine sq_nx ?_; refine wp_sSeq ?_; refine wp_sIf ?_; refine wp_qOr ?_; refine wp_qT ?_; refine wp_eIsi ?_; refine wp_eV ?_; refine gv_s ?_; refine gv_0 ?_; refine nu_str ?_; refine fz_str ?_; refine st_s ?_; refine st_0 ?_; refine o_isi (by with_unfolding_all rfl) ?_; refine o_truB ?_; refine br_f ?_; refine wp_qT ?_; refine wp_eIsi ?_; refine wp_eV ?_; refine gv_0 ?_; refine nu_str ?_; refine fz_str ?_; refine st_0 ?_; refine o_isi (by with_unfolding_all rfl) ?_; refine o_truB ?_; refine br_f ?_; refine wp_sNx ?_; refine sq_nx ?_; refine wp_sSeq ?_; refine wp_sIf ?_; refine wp_qOr ?_; refine wp_qT ?_; refine wp_eIsi ?_; refine wp_eV ?_; refine gv_s ?_; refine gv_0 ?_; refine nu_str ?_; refine fz_str ?_; refine st_s ?_; refine st_0 ?_; refine o_isi (by with_unfolding_all rfl) ?_; refine o_truB ?_; refine br_t ?_; refine br_t ?_; refine wp_sRt ?_; refine wp_eAnd ?_; refine wp_eBin ?_; refine wp_eIsi ?_; refine wp_eV ?_; refine gv_0 ?_; refine nu_str ?_; refine fz_str ?_; refine st_0 ?_; refine o_isi (by with_unfolding_all rfl) ?_; refine wp_eIsi ?_; refine wp_eV ?_; refine gv_s ?_; refine gv_0 ?_; refine nu_str ?_; refine fz_str ?_; refine st_s ?_; refine st_0 ?_; refine o_isi (by with_unfolding_all rfl) ?_; refine o_eqB ?_; refine o_toB ?_; refine br_beqT (by with_unfolding_all rfl) ?_; refine wp_eAnd ?_; refine wp_eIsi ?_; refine wp_eV ?_; refine gv_0 ?_; refine nu_str ?_; refine fz_str ?_; refine st_0 ?_; refine o_isi (by with_unfolding_all rfl) ?_; refine o_toB ?_; refine br_t ?_; refine wp_eBin ?_; refine wp_eV ?_; refine gv_0 ?_; refine nu_str ?_; refine fz_str ?_; refine st_0 ?_; refine wp_eV ?_; refine gv_s ?_; refine gv_0 ?_; refine nu_str ?_; refine fz_str ?_; refine st_s ?_; refine st_0 ?_; refine o_eqS ?_; refine sq_rt ?_; refine endF_rt (by with_unfolding_all rfl) (by with_unfolding_all rfl) ?_))
  rfl
theorem like_bl (n : Nat) {a b : Bool} : R_f_law_like (n + 1) [.bl a, .bl b] = .ok (.bl (a == b)) [] := by
  refine def_ok (env := [.bl a, .bl b, .un]) rfl ?_
  unfold B_f_law_like
  (with_reducible (refine wp_sSeq ?_; refine wp_sIf ?_; refine wp_qB ?_; refine wp_eIsN ?_; refine wp_eV ?_; refine gv_s ?_; refine gv_0 ?_; refine nu_bl ?_; refine fz_bl ?_; refine st_s ?_; refine st_0 ?_; refine o_isNb ?_; refine o_toB ?_; refine br_f ?_; refine wp_sNx ?_; refine sq_nx ?_; refine wp_sSeq ?_; refine wp_sIf ?_; refine wp_qOr ?_; refine wp_qT ?_; refine wp_eIsi ?_; refine wp_eV ?_; refine gv_s ?_; refine gv_0 ?_; refine nu_bl ?_; refine fz_bl ?_; refine st_s ?_; refine st_0 ?_; refine o_isi (by with_unfolding_all rfl) ?_; refine o_truB ?_; refine br_t ?_; refine br_t ?_; refine wp_sRt ?_; refine wp_eAnd ?_; refine wp_eIsi ?_; refine wp_eV ?_; refine gv_s ?_; refine gv_0 ?_; refine nu_bl ?_; refine fz_bl ?_; refine st_s ?_; refine st_0 ?_; refine o_isi (by with_unfolding_all rfl) ?_; refine o_toB ?_; refine br_t ?_; refine wp_eAnd ?_; refine wp_eIsi ?_; refine wp_eV ?_; refine gv_0 ?_; refine nu_bl ?_; refine fz_bl ?_; refine st_0 ?_; refine o_isi (by with_unfolding_all rfl) ?_; refine o_toB ?_; refine br_t ?_; refine wp_eBin ?_; refine wp_eV ?_; refine gv_0 ?_; refine nu_bl ?_; refine fz_bl ?_; refine st_0 ?_; refine wp_eV ?_; refine gv_s ?_; refine gv_0 ?_; refine nu_bl ?_; refine fz_bl ?_; refine st_s ?_; refine st_0 ?_; refine o_eqB ?_; refine sq_rt ?_; refine endF_rt (by with_unfolding_all rfl) (by with_unfolding_all rfl) ?_))
  rfl
end Lw
namespace Lw
open PySem Pm
def chk (n : Nat) : Bool := match F_f_group_of [.str (Str.ofString "every " ++ Str.ofString (toString ((n + 2 : Nat) : Int)))] with
  | .ok (.int g) [] => g == ((n + 2 : Nat) : Int)
  | _ => false
theorem ck0 : (List.range' 0 37).all chk = true := by decide +kernel
theorem ck37 : (List.range' 37 37).all chk = true := by decide +kernel
theorem ck74 : (List.range' 74 37).all chk = true := by decide +kernel
theorem ck111 : (List.range' 111 37).all chk = true := by decide +kernel
theorem ck148 : (List.range' 148 37).all chk = true := by decide +kernel
theorem ck185 : (List.range' 185 37).all chk = true := by decide +kernel
theorem ck222 : (List.range' 222 37).all chk = true := by decide +kernel
theorem ck259 : (List.range' 259 37).all chk = true := by decide +kernel
theorem ck296 : (List.range' 296 37).all chk = true := by decide +kernel
theorem ck333 : (List.range' 333 37).all chk = true := by decide +kernel
theorem ck370 : (List.range' 370 37).all chk = true := by decide +kernel
theorem ck407 : (List.range' 407 37).all chk = true := by decide +kernel
theorem ck444 : (List.range' 444 37).all chk = true := by decide +kernel
theorem ck481 : (List.range' 481 37).all chk = true := by decide +kernel
theorem ck518 : (List.range' 518 37).all chk = true := by decide +kernel
theorem ck555 : (List.range' 555 37).all chk = true := by decide +kernel
theorem ck592 : (List.range' 592 37).all chk = true := by decide +kernel
theorem ck629 : (List.range' 629 37).all chk = true := by decide +kernel
theorem ck666 : (List.range' 666 37).all chk = true := by decide +kernel
theorem ck703 : (List.range' 703 37).all chk = true := by decide +kernel
theorem ck740 : (List.range' 740 37).all chk = true := by decide +kernel
theorem ck777 : (List.range' 777 37).all chk = true := by decide +kernel
theorem ck814 : (List.range' 814 37).all chk = true := by decide +kernel
theorem ck851 : (List.range' 851 37).all chk = true := by decide +kernel
theorem ck888 : (List.range' 888 37).all chk = true := by decide +kernel
theorem ck925 : (List.range' 925 37).all chk = true := by decide +kernel
theorem ck962 : (List.range' 962 37).all chk = true := by decide +kernel
theorem ck_of {a : Nat} (h : (List.range' a 37).all chk = true) (n : Nat) (h1 : a ≤ n) (h2 : n < a + 37) : chk n = true := List.all_eq_true.mp h n (List.mem_range'_1.mpr ⟨h1, h2⟩)
theorem chk_all : (List.range 999).all chk = true := List.all_eq_true.mpr fun n hn => by
  have h : n < 999 := List.mem_range.mp hn
  by_cases h0 : n < 37
  · exact ck_of ck0 n (by omega) (by omega)
  by_cases h37 : n < 74
  · exact ck_of ck37 n (by omega) (by omega)
  by_cases h74 : n < 111
  · exact ck_of ck74 n (by omega) (by omega)
  by_cases h111 : n < 148
  · exact ck_of ck111 n (by omega) (by omega)
  by_cases h148 : n < 185
  · exact ck_of ck148 n (by omega) (by omega)
  by_cases h185 : n < 222
  · exact ck_of ck185 n (by omega) (by omega)
  by_cases h222 : n < 259
  · exact ck_of ck222 n (by omega) (by omega)
  by_cases h259 : n < 296
  · exact ck_of ck259 n (by omega) (by omega)
  by_cases h296 : n < 333
  · exact ck_of ck296 n (by omega) (by omega)
  by_cases h333 : n < 370
  · exact ck_of ck333 n (by omega) (by omega)
  by_cases h370 : n < 407
  · exact ck_of ck370 n (by omega) (by omega)
  by_cases h407 : n < 444
  · exact ck_of ck407 n (by omega) (by omega)
  by_cases h444 : n < 481
  · exact ck_of ck444 n (by omega) (by omega)
  by_cases h481 : n < 518
  · exact ck_of ck481 n (by omega) (by omega)
  by_cases h518 : n < 555
  · exact ck_of ck518 n (by omega) (by omega)
  by_cases h555 : n < 592
  · exact ck_of ck555 n (by omega) (by omega)
  by_cases h592 : n < 629
  · exact ck_of ck592 n (by omega) (by omega)
  by_cases h629 : n < 666
  · exact ck_of ck629 n (by omega) (by omega)
  by_cases h666 : n < 703
  · exact ck_of ck666 n (by omega) (by omega)
  by_cases h703 : n < 740
  · exact ck_of ck703 n (by omega) (by omega)
  by_cases h740 : n < 777
  · exact ck_of ck740 n (by omega) (by omega)
  by_cases h777 : n < 814
  · exact ck_of ck777 n (by omega) (by omega)
  by_cases h814 : n < 851
  · exact ck_of ck814 n (by omega) (by omega)
  by_cases h851 : n < 888
  · exact ck_of ck851 n (by omega) (by omega)
  by_cases h888 : n < 925
  · exact ck_of ck888 n (by omega) (by omega)
  by_cases h925 : n < 962
  · exact ck_of ck925 n (by omega) (by omega)
  exact ck_of ck962 n (by omega) (by omega)
end Lw
namespace Lw
open PySem Pm
def grp (a : Str) (g : Int) : Prop := (a = Str.ofString "each" ∧ g = 1) ∨ (a = Str.ofString "free" ∧ g = 0) ∨ (a = Str.ofString "fresh" ∧ g = 0) ∨ ∃ n : Nat, n < 999 ∧ g = ((n + 2 : Nat) : Int) ∧ a = Str.ofString "every " ++ Str.ofString (toString ((n + 2 : Nat) : Int))
def four (s : Str) : Prop := s = Str.ofString "any" ∨ s = Str.ofString "first" ∨ s = Str.ofString "last" ∨ s = Str.ofString "none"
theorem group_ok {a : Str} {g : Int} (h : grp a g) : F_f_group_of [.str a] = .ok (.int g) [] := by
  rcases h with ⟨rfl, rfl⟩ | ⟨rfl, rfl⟩ | ⟨rfl, rfl⟩ | ⟨n, hn, rfl, rfl⟩
  · rfl
  · rfl
  · rfl
  · have := List.all_eq_true.mp chk_all n (List.mem_range.mpr hn)
    unfold chk at this
    split at this
    · rename_i g' e
      rw [e, eq_of_beq this]
    · cases this
theorem grp_pos {a : Str} {g : Int} (h : grp a g) : 0 ≤ g ∧ g ≤ 1000 := by
  rcases h with ⟨rfl, rfl⟩ | ⟨rfl, rfl⟩ | ⟨rfl, rfl⟩ | ⟨n, hn, rfl, rfl⟩ <;> omega
theorem notin4 {s : Str} (h : four s) : ([D.str "any", D.str "first", D.str "last", D.str "none"].any fun z => eqv z (D.str s)) = true := by
  rcases h with rfl | rfl | rfl | rfl <;> rfl
theorem rule_ok {w r g : Int} {a s : Str} (hw : 1 ≤ w ∧ w ≤ 1000) (hr : 1 ≤ r ∧ r ≤ 1000) (hg : grp a g) (hs : four s) : F_f_Rule_init [.oins 0 [], .int w, .int r, .str a, .str s] = .ok .non [.oins 0 [.int w, .int r, .str a, .str s, .int g]] := by
  have gp := grp_pos hg
  have hgo := group_ok hg
  refine def_ok (env := [.oins 0 [], .int w, .int r, .str a, .str s]) rfl ?_
  unfold B_f_Rule_init
  (with_reducible (refine wp_sSeq ?_; refine wp_sIf ?_; refine wp_qNot ?_; refine wp_qB ?_; refine wp_eChain ?_; refine wp_eC ?_; refine wp_eV ?_; refine gv_s ?_; refine gv_0 ?_; refine nu_int ?_; refine fz_int ?_; refine st_s ?_; refine st_0 ?_; refine o_le ?_; refine o_toB ?_; refine br_dT (by omega) ?_; refine wp_eC ?_; refine o_svI ?_; refine o_le ?_; refine o_toB ?_; refine br_n ?_; refine br_dT (by omega) ?_; refine wp_sNx ?_; refine sq_nx ?_; refine wp_sSeq ?_; refine wp_sIf ?_; refine wp_qNot ?_; refine wp_qB ?_; refine wp_eChain ?_; refine wp_eC ?_; refine wp_eV ?_; refine gv_s ?_; refine gv_s ?_; refine gv_0 ?_; refine nu_int ?_; refine fz_int ?_; refine st_s ?_; refine st_s ?_; refine st_0 ?_; refine o_le ?_; refine o_toB ?_; refine br_dT (by omega) ?_; refine wp_eC ?_; refine o_svI ?_; refine o_le ?_; refine o_toB ?_; refine br_n ?_; refine br_dT (by omega) ?_; refine wp_sNx ?_; refine sq_nx ?_; refine wp_sSeq ?_; refine wp_sIf ?_; refine wp_qB ?_; refine wp_eBin ?_; refine wp_eCall ?_; refine wp_aCons ?_; refine wp_eV ?_; refine gv_s ?_; refine gv_s ?_; refine gv_s ?_; refine gv_0 ?_; refine nu_str ?_; refine fz_str ?_; refine st_s ?_; refine st_s ?_; refine st_s ?_; refine st_0 ?_; refine wp_aNil ?_; refine fF_of (by assumption) ?_; refine pbc_n ?_; refine pbc_0 ?_; refine wp_eC ?_; refine o_lt ?_; refine o_toB ?_; refine br_dF (by omega) ?_; refine wp_sNx ?_; refine sq_nx ?_; refine wp_sSeq ?_; refine wp_sIf ?_; refine wp_qB ?_; refine wp_eBin ?_; refine wp_eV ?_; refine gv_s ?_; refine gv_s ?_; refine gv_s ?_; refine gv_s ?_; refine gv_0 ?_; refine nu_str ?_; refine fz_str ?_; refine st_s ?_; refine st_s ?_; refine st_s ?_; refine st_s ?_; refine st_0 ?_; refine wp_eTup ?_; refine wp_aCons ?_; refine wp_eC ?_; refine wp_aCons ?_; refine wp_eC ?_; refine wp_aCons ?_; refine wp_eC ?_; refine wp_aCons ?_; refine wp_eC ?_; refine wp_aNil ?_; refine len_ok (by with_unfolding_all rfl) ?_; refine mkt_t (by with_unfolding_all rfl) ?_; refine o_notIn (by with_unfolding_all rfl) ?_; refine o_toB ?_; refine br_n ?_))
  refine br_eqc (notin4 hs) ?_
  (with_reducible (refine br_t ?_; refine wp_sNx ?_; refine sq_nx ?_; refine wp_sSeq ?_; refine wp_sAt ?_; refine wp_eV ?_; refine gv_s ?_; refine gv_0 ?_; refine nu_int ?_; refine fz_int ?_; refine st_s ?_; refine st_0 ?_; refine gi_0 ?_; refine oi_o (Nat.le_of_ble_eq_true (by with_unfolding_all rfl)) (Nat.le_of_ble_eq_true (by with_unfolding_all rfl)) ?_; refine st_0 ?_; refine sq_nx ?_; refine wp_sSeq ?_; refine wp_sAt ?_; refine wp_eV ?_; refine gv_s ?_; refine gv_s ?_; refine gv_0 ?_; refine nu_int ?_; refine fz_int ?_; refine st_s ?_; refine st_s ?_; refine st_0 ?_; refine gi_0 ?_; refine oi_o (Nat.le_of_ble_eq_true (by with_unfolding_all rfl)) (Nat.le_of_ble_eq_true (by with_unfolding_all rfl)) ?_; refine st_0 ?_; refine sq_nx ?_; refine wp_sSeq ?_; refine wp_sAt ?_; refine wp_eV ?_; refine gv_s ?_; refine gv_s ?_; refine gv_s ?_; refine gv_0 ?_; refine nu_str ?_; refine fz_str ?_; refine st_s ?_; refine st_s ?_; refine st_s ?_; refine st_0 ?_; refine gi_0 ?_; refine oi_o (Nat.le_of_ble_eq_true (by with_unfolding_all rfl)) (Nat.le_of_ble_eq_true (by with_unfolding_all rfl)) ?_; refine st_0 ?_; refine sq_nx ?_; refine wp_sSeq ?_; refine wp_sAt ?_; refine wp_eV ?_; refine gv_s ?_; refine gv_s ?_; refine gv_s ?_; refine gv_s ?_; refine gv_0 ?_; refine nu_str ?_; refine fz_str ?_; refine st_s ?_; refine st_s ?_; refine st_s ?_; refine st_s ?_; refine st_0 ?_; refine gi_0 ?_; refine oi_o (Nat.le_of_ble_eq_true (by with_unfolding_all rfl)) (Nat.le_of_ble_eq_true (by with_unfolding_all rfl)) ?_; refine st_0 ?_; refine sq_nx ?_; refine wp_sAt ?_; refine wp_eCall ?_; refine wp_aCons ?_; refine wp_eV ?_; refine gv_s ?_; refine gv_s ?_; refine gv_s ?_; refine gv_0 ?_; refine nu_str ?_; refine fz_str ?_; refine st_s ?_; refine st_s ?_; refine st_s ?_; refine st_0 ?_; refine wp_aNil ?_; refine fF_of (by assumption) ?_; refine pbc_n ?_; refine pbc_0 ?_; refine gi_0 ?_; refine oi_o (Nat.le_of_ble_eq_true (by with_unfolding_all rfl)) (Nat.le_of_ble_eq_true (by with_unfolding_all rfl)) ?_; refine st_0 ?_; exact endF_nx (by with_unfolding_all rfl) (by with_unfolding_all rfl)))
theorem chan_ok {k j : Int} (hk : 0 ≤ k ∧ k ≤ 1000) (hj : 0 ≤ j ∧ j ≤ 1000) : F_f_Channel_init [.oins 1 [], .int k, .int j] = .ok .non [.oins 1 [.int k, .int j]] := by
  refine def_ok (env := [.oins 1 [], .int k, .int j]) rfl ?_
  unfold B_f_Channel_init
  (with_reducible (refine wp_sSeq ?_; refine wp_sIf ?_; refine wp_qNot ?_; refine wp_qB ?_; refine wp_eChain ?_; refine wp_eC ?_; refine wp_eV ?_; refine gv_s ?_; refine gv_0 ?_; refine nu_int ?_; refine fz_int ?_; refine st_s ?_; refine st_0 ?_; refine o_le ?_; refine o_toB ?_; refine br_dT (by omega) ?_; refine wp_eC ?_; refine o_svI ?_; refine o_le ?_; refine o_toB ?_; refine br_n ?_; refine br_dT (by omega) ?_; refine wp_sNx ?_; refine sq_nx ?_; refine wp_sSeq ?_; refine wp_sIf ?_; refine wp_qNot ?_; refine wp_qB ?_; refine wp_eChain ?_; refine wp_eC ?_; refine wp_eV ?_; refine gv_s ?_; refine gv_s ?_; refine gv_0 ?_; refine nu_int ?_; refine fz_int ?_; refine st_s ?_; refine st_s ?_; refine st_0 ?_; refine o_le ?_; refine o_toB ?_; refine br_dT (by omega) ?_; refine wp_eC ?_; refine o_svI ?_; refine o_le ?_; refine o_toB ?_; refine br_n ?_; refine br_dT (by omega) ?_; refine wp_sNx ?_; refine sq_nx ?_; refine wp_sSeq ?_; refine wp_sAt ?_; refine wp_eV ?_; refine gv_s ?_; refine gv_0 ?_; refine nu_int ?_; refine fz_int ?_; refine st_s ?_; refine st_0 ?_; refine gi_0 ?_; refine oi_o (Nat.le_of_ble_eq_true (by with_unfolding_all rfl)) (Nat.le_of_ble_eq_true (by with_unfolding_all rfl)) ?_; refine st_0 ?_; refine sq_nx ?_; refine wp_sAt ?_; refine wp_eV ?_; refine gv_s ?_; refine gv_s ?_; refine gv_0 ?_; refine nu_int ?_; refine fz_int ?_; refine st_s ?_; refine st_s ?_; refine st_0 ?_; refine gi_0 ?_; refine oi_o (Nat.le_of_ble_eq_true (by with_unfolding_all rfl)) (Nat.le_of_ble_eq_true (by with_unfolding_all rfl)) ?_; refine st_0 ?_; exact endF_nx (by with_unfolding_all rfl) (by with_unfolding_all rfl)))
theorem life_ok {t r : Int} (ht : 0 ≤ t ∧ t ≤ 1000) (hr : 1 ≤ r ∧ r ≤ 1000) : F_f_Lifetime_init [.oins 2 [], .int t, .int r] = .ok .non [.oins 2 [.int t, .int r]] := by
  refine def_ok (env := [.oins 2 [], .int t, .int r]) rfl ?_
  unfold B_f_Lifetime_init
  (with_reducible (refine wp_sSeq ?_; refine wp_sIf ?_; refine wp_qNot ?_; refine wp_qB ?_; refine wp_eChain ?_; refine wp_eC ?_; refine wp_eV ?_; refine gv_s ?_; refine gv_0 ?_; refine nu_int ?_; refine fz_int ?_; refine st_s ?_; refine st_0 ?_; refine o_le ?_; refine o_toB ?_; refine br_dT (by omega) ?_; refine wp_eC ?_; refine o_svI ?_; refine o_le ?_; refine o_toB ?_; refine br_n ?_; refine br_dT (by omega) ?_; refine wp_sNx ?_; refine sq_nx ?_; refine wp_sSeq ?_; refine wp_sIf ?_; refine wp_qNot ?_; refine wp_qB ?_; refine wp_eChain ?_; refine wp_eC ?_; refine wp_eV ?_; refine gv_s ?_; refine gv_s ?_; refine gv_0 ?_; refine nu_int ?_; refine fz_int ?_; refine st_s ?_; refine st_s ?_; refine st_0 ?_; refine o_le ?_; refine o_toB ?_; refine br_dT (by omega) ?_; refine wp_eC ?_; refine o_svI ?_; refine o_le ?_; refine o_toB ?_; refine br_n ?_; refine br_dT (by omega) ?_; refine wp_sNx ?_; refine sq_nx ?_; refine wp_sSeq ?_; refine wp_sAt ?_; refine wp_eV ?_; refine gv_s ?_; refine gv_0 ?_; refine nu_int ?_; refine fz_int ?_; refine st_s ?_; refine st_0 ?_; refine gi_0 ?_; refine oi_o (Nat.le_of_ble_eq_true (by with_unfolding_all rfl)) (Nat.le_of_ble_eq_true (by with_unfolding_all rfl)) ?_; refine st_0 ?_; refine sq_nx ?_; refine wp_sAt ?_; refine wp_eV ?_; refine gv_s ?_; refine gv_s ?_; refine gv_0 ?_; refine nu_int ?_; refine fz_int ?_; refine st_s ?_; refine st_s ?_; refine st_0 ?_; refine gi_0 ?_; refine oi_o (Nat.le_of_ble_eq_true (by with_unfolding_all rfl)) (Nat.le_of_ble_eq_true (by with_unfolding_all rfl)) ?_; refine st_0 ?_; exact endF_nx (by with_unfolding_all rfl) (by with_unfolding_all rfl)))
def RD (w r : Int) (a s : Str) (g : Int) : D := .ins 0 [.int w, .int r, .str a, .str s, .int g]
def CD (k j : Int) : D := .ins 1 [.int k, .int j]
def isRe (w : Int) (s : Str) : Bool := decide (s = Str.ofString "any") || (decide (s = Str.ofString "first") || (decide (s = Str.ofString "last") && decide (w = 1)))
def mn (a b : Int) : Int := if b < a then b else a
def mx (a b : Int) : Int := if b > a then b else a
def gn (re : Bool) (w r k : Int) : Int := if re then mn w r else min3 w r (k + 1)
def gr (re : Bool) (w r : Int) (a : Str) (g k j : Int) : Int := if j = 0 then 0 else if a = Str.ofString "free" then j * w else if a = Str.ofString "fresh" then j * gn re w r k else mn (gn re w r k - 1 + g) w + (j - 1) * mn g w
def ls (re : Bool) (w r : Int) (a : Str) (g k j : Int) : Int := mx ((if re then w else 1) + r + k) (w + 1 + gr re w r a g k j)
variable {w r g k j : Int} {a s : Str}
def LD (t r : Int) : D := .ins 2 [.int t, .int r]
section
variable {w r g k j : Int} {a s : Str}
theorem resends_ok (hs : four s) : F_f_resends_base [RD w r a s g] = .ok (.bl (isRe w s)) [] := by
  refine def_ok (env := [.ins 0 [.int w, .int r, .str a, .str s, .int g]]) rfl ?_
  unfold B_f_resends_base
  rcases hs with rfl | rfl | rfl | rfl
  · (with_reducible (refine wp_sRt ?_; refine wp_eOr ?_; refine wp_eBin ?_; refine wp_eAtW ?_; refine gv_0 ?_; refine nu_ins ?_; refine o_at (by with_unfolding_all rfl) ?_; refine br_isO (by with_unfolding_all rfl) ?_; refine wp_eTup ?_; refine wp_aCons ?_; refine wp_eC ?_; refine wp_aCons ?_; refine wp_eC ?_; refine wp_aNil ?_; refine len_ok (by with_unfolding_all rfl) ?_; refine mkt_t (by with_unfolding_all rfl) ?_; refine o_in (by with_unfolding_all rfl) ?_; refine o_toB ?_; refine br_anyT (by with_unfolding_all rfl) ?_; refine endF_rt (by with_unfolding_all rfl) (by with_unfolding_all rfl) ?_)); rfl
  · (with_reducible (refine wp_sRt ?_; refine wp_eOr ?_; refine wp_eBin ?_; refine wp_eAtW ?_; refine gv_0 ?_; refine nu_ins ?_; refine o_at (by with_unfolding_all rfl) ?_; refine br_isO (by with_unfolding_all rfl) ?_; refine wp_eTup ?_; refine wp_aCons ?_; refine wp_eC ?_; refine wp_aCons ?_; refine wp_eC ?_; refine wp_aNil ?_; refine len_ok (by with_unfolding_all rfl) ?_; refine mkt_t (by with_unfolding_all rfl) ?_; refine o_in (by with_unfolding_all rfl) ?_; refine o_toB ?_; refine br_anyT (by with_unfolding_all rfl) ?_; refine endF_rt (by with_unfolding_all rfl) (by with_unfolding_all rfl) ?_)); rfl
  · (with_reducible (refine wp_sRt ?_; refine wp_eOr ?_; refine wp_eBin ?_; refine wp_eAtW ?_; refine gv_0 ?_; refine nu_ins ?_; refine o_at (by with_unfolding_all rfl) ?_; refine br_isO (by with_unfolding_all rfl) ?_; refine wp_eTup ?_; refine wp_aCons ?_; refine wp_eC ?_; refine wp_aCons ?_; refine wp_eC ?_; refine wp_aNil ?_; refine len_ok (by with_unfolding_all rfl) ?_; refine mkt_t (by with_unfolding_all rfl) ?_; refine o_in (by with_unfolding_all rfl) ?_; refine o_toB ?_; refine br_anyF (by with_unfolding_all rfl) ?_; refine wp_eAnd ?_; refine wp_eBin ?_; refine wp_eAtW ?_; refine gv_0 ?_; refine nu_ins ?_; refine o_at (by with_unfolding_all rfl) ?_; refine br_isO (by with_unfolding_all rfl) ?_; refine wp_eC ?_; refine o_eqS ?_; refine o_toB ?_; refine br_dT (by decide) ?_; refine wp_eBin ?_; refine wp_eAtW ?_; refine gv_0 ?_; refine nu_ins ?_; refine o_at (by with_unfolding_all rfl) ?_; refine br_isO (by with_unfolding_all rfl) ?_; refine wp_eC ?_; refine o_eqI ?_; refine endF_rt (by with_unfolding_all rfl) (by with_unfolding_all rfl) ?_)); rfl
  · (with_reducible (refine wp_sRt ?_; refine wp_eOr ?_; refine wp_eBin ?_; refine wp_eAtW ?_; refine gv_0 ?_; refine nu_ins ?_; refine o_at (by with_unfolding_all rfl) ?_; refine br_isO (by with_unfolding_all rfl) ?_; refine wp_eTup ?_; refine wp_aCons ?_; refine wp_eC ?_; refine wp_aCons ?_; refine wp_eC ?_; refine wp_aNil ?_; refine len_ok (by with_unfolding_all rfl) ?_; refine mkt_t (by with_unfolding_all rfl) ?_; refine o_in (by with_unfolding_all rfl) ?_; refine o_toB ?_; refine br_anyF (by with_unfolding_all rfl) ?_; refine wp_eAnd ?_; refine wp_eBin ?_; refine wp_eAtW ?_; refine gv_0 ?_; refine nu_ins ?_; refine o_at (by with_unfolding_all rfl) ?_; refine br_isO (by with_unfolding_all rfl) ?_; refine wp_eC ?_; refine o_eqS ?_; refine o_toB ?_; refine br_dF (by decide) ?_; refine endF_rt (by with_unfolding_all rfl) (by with_unfolding_all rfl) ?_)); rfl
theorem gain_ok (hs : four s) : F_f_gain_of [RD w r a s g, CD k j] = .ok (.int (gn (isRe w s) w r k)) [] := by
  refine def_ok (env := [.ins 0 [.int w, .int r, .str a, .str s, .int g], .ins 1 [.int k, .int j]]) rfl ?_
  unfold B_f_gain_of
  (with_reducible (refine wp_sSeq ?_; refine wp_sIf ?_; refine wp_qT ?_; refine wp_eCall ?_; refine wp_aCons ?_; refine wp_eV ?_; refine gv_0 ?_; refine nu_ins ?_; refine fz_ins ?_; refine st_0 ?_; refine wp_aNil ?_))
  refine fF_of (resends_ok hs) ?_
  (with_reducible (refine pbc_n ?_; refine pbc_0 ?_; refine o_truB ?_))
  refine br_b (fun h => ?_) (fun h => ?_)
  · (with_reducible (refine wp_sRt ?_; refine wp_eB ?_; refine wp_aCons ?_; refine wp_eAtW ?_; refine gv_0 ?_; refine nu_ins ?_; refine o_at (by with_unfolding_all rfl) ?_; refine br_isO (by with_unfolding_all rfl) ?_; refine wp_aCons ?_; refine wp_eAtW ?_; refine gv_0 ?_; refine nu_ins ?_; refine o_at (by with_unfolding_all rfl) ?_; refine br_isO (by with_unfolding_all rfl) ?_; refine wp_aNil ?_; refine o_minB ?_; refine pbk_n ?_; refine pbk_n ?_; refine pbk_0 ?_; refine sq_rt ?_; refine endF_rt (by with_unfolding_all rfl) (by with_unfolding_all rfl) ?_))
    simp only [gn, h, if_true, mn]
  · (with_reducible (refine wp_sNx ?_; refine sq_nx ?_; refine wp_sRt ?_; refine wp_eB ?_; refine wp_aCons ?_; refine wp_eAtW ?_; refine gv_0 ?_; refine nu_ins ?_; refine o_at (by with_unfolding_all rfl) ?_; refine br_isO (by with_unfolding_all rfl) ?_; refine wp_aCons ?_; refine wp_eAtW ?_; refine gv_0 ?_; refine nu_ins ?_; refine o_at (by with_unfolding_all rfl) ?_; refine br_isO (by with_unfolding_all rfl) ?_; refine wp_aCons ?_; refine wp_eBin ?_; refine wp_eAtW ?_; refine gv_s ?_; refine gv_0 ?_; refine nu_ins ?_; refine o_at (by with_unfolding_all rfl) ?_; refine br_isO (by with_unfolding_all rfl) ?_; refine wp_eC ?_; refine o_add ?_; refine wp_aNil ?_; refine o_on3 ?_; refine pbk_n ?_; refine pbk_n ?_; refine pbk_n ?_; refine pbk_0 ?_; refine endF_rt (by with_unfolding_all rfl) (by with_unfolding_all rfl) ?_))
    simp only [gn, h]
    rfl
theorem reach_ok (hs : four s) : F_f_reach_of [RD w r a s g] = .ok (.int (if isRe w s then w else 1)) [] := by
  refine def_ok (env := [.ins 0 [.int w, .int r, .str a, .str s, .int g]]) rfl ?_
  unfold B_f_reach_of
  (with_reducible (refine wp_sSeq ?_; refine wp_sIf ?_; refine wp_qT ?_; refine wp_eCall ?_; refine wp_aCons ?_; refine wp_eV ?_; refine gv_0 ?_; refine nu_ins ?_; refine fz_ins ?_; refine st_0 ?_; refine wp_aNil ?_))
  refine fF_of (resends_ok hs) ?_
  (with_reducible (refine pbc_n ?_; refine pbc_0 ?_; refine o_truB ?_))
  refine br_b (fun h => ?_) (fun h => ?_)
  · (with_reducible (refine wp_sRt ?_; refine wp_eAtW ?_; refine gv_0 ?_; refine nu_ins ?_; refine o_at (by with_unfolding_all rfl) ?_; refine br_isO (by with_unfolding_all rfl) ?_; refine sq_rt ?_; refine endF_rt (by with_unfolding_all rfl) (by with_unfolding_all rfl) ?_))
    simp only [h, if_true]
  · (with_reducible (refine wp_sNx ?_; refine sq_nx ?_; refine wp_sRt ?_; refine wp_eC ?_; refine endF_rt (by with_unfolding_all rfl) (by with_unfolding_all rfl) ?_))
    simp only [h]
    rfl
theorem growth_ok (hs : four s) (hj : 0 ≤ j ∧ j ≤ 1000) : F_f_growth [RD w r a s g, CD k j] = .ok (.int (gr (isRe w s) w r a g k j)) [] := by
  refine def_ok (env := [.ins 0 [.int w, .int r, .str a, .str s, .int g], .ins 1 [.int k, .int j], .un]) rfl ?_
  unfold B_f_growth
  (with_reducible (refine wp_sSeq ?_; refine wp_sIf ?_; refine wp_qB ?_; refine wp_eBin ?_; refine wp_eAtW ?_; refine gv_s ?_; refine gv_0 ?_; refine nu_ins ?_; refine o_at (by with_unfolding_all rfl) ?_; refine br_isO (by with_unfolding_all rfl) ?_; refine wp_eC ?_; refine o_eqI ?_; refine o_toB ?_))
  refine br_d (fun h => ?_) (fun h => ?_)
  · (with_reducible (refine wp_sRt ?_; refine wp_eC ?_; refine sq_rt ?_; refine endF_rt (by with_unfolding_all rfl) (by with_unfolding_all rfl) ?_))
    rw [gr, if_pos h]
  (with_reducible (refine wp_sNx ?_; refine sq_nx ?_; refine wp_sSeq ?_; refine wp_sSet ?_; refine wp_eCall ?_; refine wp_aCons ?_; refine wp_eV ?_; refine gv_0 ?_; refine nu_ins ?_; refine fz_ins ?_; refine st_0 ?_; refine wp_aCons ?_; refine wp_eV ?_; refine gv_s ?_; refine gv_0 ?_; refine nu_ins ?_; refine fz_ins ?_; refine st_s ?_; refine st_0 ?_; refine wp_aNil ?_))
  refine fF_of (gain_ok hs) ?_
  (with_reducible (refine pbc_n ?_; refine pbc_n ?_; refine pbc_0 ?_; refine st_s ?_; refine st_s ?_; refine st_0 ?_; refine sq_nx ?_; refine wp_sSeq ?_; refine wp_sIf ?_; refine wp_qB ?_; refine wp_eBin ?_; refine wp_eAtW ?_; refine gv_0 ?_; refine nu_ins ?_; refine o_at (by with_unfolding_all rfl) ?_; refine br_isO (by with_unfolding_all rfl) ?_; refine wp_eC ?_; refine o_eqS ?_; refine o_toB ?_))
  refine br_d (fun h1 => ?_) (fun h1 => ?_)
  · (with_reducible (refine wp_sRt ?_; refine wp_eBin ?_; refine wp_eAtW ?_; refine gv_s ?_; refine gv_0 ?_; refine nu_ins ?_; refine o_at (by with_unfolding_all rfl) ?_; refine br_isO (by with_unfolding_all rfl) ?_; refine wp_eAtW ?_; refine gv_0 ?_; refine nu_ins ?_; refine o_at (by with_unfolding_all rfl) ?_; refine br_isO (by with_unfolding_all rfl) ?_; refine o_mul (by omega) ?_; refine sq_rt ?_; refine endF_rt (by with_unfolding_all rfl) (by with_unfolding_all rfl) ?_))
    rw [gr, if_neg h, if_pos h1]
  (with_reducible (refine wp_sNx ?_; refine sq_nx ?_; refine wp_sSeq ?_; refine wp_sIf ?_; refine wp_qB ?_; refine wp_eBin ?_; refine wp_eAtW ?_; refine gv_0 ?_; refine nu_ins ?_; refine o_at (by with_unfolding_all rfl) ?_; refine br_isO (by with_unfolding_all rfl) ?_; refine wp_eC ?_; refine o_eqS ?_; refine o_toB ?_))
  refine br_d (fun h2 => ?_) (fun h2 => ?_)
  · (with_reducible (refine wp_sRt ?_; refine wp_eBin ?_; refine wp_eAtW ?_; refine gv_s ?_; refine gv_0 ?_; refine nu_ins ?_; refine o_at (by with_unfolding_all rfl) ?_; refine br_isO (by with_unfolding_all rfl) ?_; refine wp_eV ?_; refine gv_s ?_; refine gv_s ?_; refine gv_0 ?_; refine nu_int ?_; refine fz_int ?_; refine st_s ?_; refine st_s ?_; refine st_0 ?_; refine o_mul (by omega) ?_; refine sq_rt ?_; refine endF_rt (by with_unfolding_all rfl) (by with_unfolding_all rfl) ?_))
    rw [gr, if_neg h, if_neg h1, if_pos h2]
  (with_reducible (refine wp_sNx ?_; refine sq_nx ?_; refine wp_sRt ?_; refine wp_eBin ?_; refine wp_eB ?_; refine wp_aCons ?_; refine wp_eBin ?_; refine wp_eBin ?_; refine wp_eV ?_; refine gv_s ?_; refine gv_s ?_; refine gv_0 ?_; refine nu_int ?_; refine fz_int ?_; refine st_s ?_; refine st_s ?_; refine st_0 ?_; refine wp_eC ?_; refine o_sub ?_; refine wp_eAtW ?_; refine gv_0 ?_; refine nu_ins ?_; refine o_at (by with_unfolding_all rfl) ?_; refine br_isO (by with_unfolding_all rfl) ?_; refine o_add ?_; refine wp_aCons ?_; refine wp_eAtW ?_; refine gv_0 ?_; refine nu_ins ?_; refine o_at (by with_unfolding_all rfl) ?_; refine br_isO (by with_unfolding_all rfl) ?_; refine wp_aNil ?_; refine o_minB ?_; refine pbk_n ?_; refine pbk_n ?_; refine pbk_0 ?_; refine wp_eBin ?_; refine wp_eBin ?_; refine wp_eAtW ?_; refine gv_s ?_; refine gv_0 ?_; refine nu_ins ?_; refine o_at (by with_unfolding_all rfl) ?_; refine br_isO (by with_unfolding_all rfl) ?_; refine wp_eC ?_; refine o_sub ?_; refine wp_eB ?_; refine wp_aCons ?_; refine wp_eAtW ?_; refine gv_0 ?_; refine nu_ins ?_; refine o_at (by with_unfolding_all rfl) ?_; refine br_isO (by with_unfolding_all rfl) ?_; refine wp_aCons ?_; refine wp_eAtW ?_; refine gv_0 ?_; refine nu_ins ?_; refine o_at (by with_unfolding_all rfl) ?_; refine br_isO (by with_unfolding_all rfl) ?_; refine wp_aNil ?_; refine o_minB ?_; refine pbk_n ?_; refine pbk_n ?_; refine pbk_0 ?_; refine o_mul (by omega) ?_; refine o_add ?_; refine endF_rt (by with_unfolding_all rfl) (by with_unfolding_all rfl) ?_))
  rw [gr, if_neg h, if_neg h1, if_neg h2]
  rfl
theorem least_ok (hs : four s) (hj : 0 ≤ j ∧ j ≤ 1000) : F_f_least_by_formula [RD w r a s g, CD k j] = .ok (.int (ls (isRe w s) w r a g k j)) [] := by
  refine def_ok (env := [.ins 0 [.int w, .int r, .str a, .str s, .int g], .ins 1 [.int k, .int j]]) rfl ?_
  unfold B_f_least_by_formula
  (with_reducible (refine wp_sRt ?_; refine wp_eB ?_; refine wp_aCons ?_; refine wp_eBin ?_; refine wp_eBin ?_; refine wp_eCall ?_; refine wp_aCons ?_; refine wp_eV ?_; refine gv_0 ?_; refine nu_ins ?_; refine fz_ins ?_; refine st_0 ?_; refine wp_aNil ?_))
  refine fF_of (reach_ok hs) ?_
  (with_reducible (refine pbc_n ?_; refine pbc_0 ?_; refine wp_eAtW ?_; refine gv_0 ?_; refine nu_ins ?_; refine o_at (by with_unfolding_all rfl) ?_; refine br_isO (by with_unfolding_all rfl) ?_; refine o_add ?_; refine wp_eAtW ?_; refine gv_s ?_; refine gv_0 ?_; refine nu_ins ?_; refine o_at (by with_unfolding_all rfl) ?_; refine br_isO (by with_unfolding_all rfl) ?_; refine o_add ?_; refine wp_aCons ?_; refine wp_eBin ?_; refine wp_eBin ?_; refine wp_eAtW ?_; refine gv_0 ?_; refine nu_ins ?_; refine o_at (by with_unfolding_all rfl) ?_; refine br_isO (by with_unfolding_all rfl) ?_; refine wp_eC ?_; refine o_add ?_; refine wp_eCall ?_; refine wp_aCons ?_; refine wp_eV ?_; refine gv_0 ?_; refine nu_ins ?_; refine fz_ins ?_; refine st_0 ?_; refine wp_aCons ?_; refine wp_eV ?_; refine gv_s ?_; refine gv_0 ?_; refine nu_ins ?_; refine fz_ins ?_; refine st_s ?_; refine st_0 ?_; refine wp_aNil ?_))
  refine fF_of (growth_ok hs hj) ?_
  (with_reducible (refine pbc_n ?_; refine pbc_n ?_; refine pbc_0 ?_; refine o_add ?_; refine wp_aNil ?_; refine o_maxB ?_; refine pbk_n ?_; refine pbk_n ?_; refine pbk_0 ?_; refine endF_rt (by with_unfolding_all rfl) (by with_unfolding_all rfl) ?_))
  rfl
end
section
variable {re : Bool} {w r g k j w' r' k' j' : Int} {a : Str}
theorem gn_pos (hw : 1 ≤ w) (hr : 1 ≤ r) (hk : 0 ≤ k) : 1 ≤ gn re w r k := by
  unfold gn mn min3
  cases re <;> simp only [Bool.false_eq_true, if_false, if_true] <;> (repeat' split) <;> omega
theorem gn_mono (hw : w ≤ w') (hr : r ≤ r') (hk : k ≤ k') : gn re w r k ≤ gn re w' r' k' := by
  unfold gn mn min3
  cases re <;> simp only [Bool.false_eq_true, if_false, if_true] <;> (repeat' split) <;> omega
theorem mn_mono {x y x' y' : Int} (h : x ≤ x') (h2 : y ≤ y') : mn x y ≤ mn x' y' := by
  unfold mn
  (repeat' split) <;> omega
theorem mn_nn {x y : Int} (h : 0 ≤ x) (h2 : 0 ≤ y) : 0 ≤ mn x y := by
  unfold mn
  split <;> omega
theorem gr_nn (hw : 1 ≤ w) (hr : 1 ≤ r) (hk : 0 ≤ k) (hj : 0 ≤ j) (hg : 0 ≤ g) : 0 ≤ gr re w r a g k j := by
  have h1 := gn_pos (re := re) hw hr hk
  unfold gr
  split
  · omega
  · rename_i h0
    split
    · exact Int.mul_nonneg hj (by omega)
    · split
      · exact Int.mul_nonneg hj (by omega)
      · have h2 := mn_nn (x := gn re w r k - 1 + g) (y := w) (by omega) (by omega)
        have h3 := Int.mul_nonneg (a := j - 1) (b := mn g w) (by omega) (mn_nn hg (by omega))
        omega
theorem gr_mono (hw : 1 ≤ w) (hr : 1 ≤ r) (hk : 0 ≤ k) (hj : 0 ≤ j) (hg : 0 ≤ g) (h1 : w ≤ w') (h2 : r ≤ r') (h3 : k ≤ k') (h4 : j ≤ j') : gr re w r a g k j ≤ gr re w' r' a g k' j' := by
  by_cases h0 : j = 0
  · have : gr re w r a g k j = 0 := by rw [gr, if_pos h0]
    rw [this]
    exact gr_nn (by omega) (by omega) (by omega) (by omega) hg
  · have h0' : ¬ j' = 0 := by omega
    have p1 := gn_pos (re := re) hw hr hk
    have p2 := gn_mono (re := re) h1 h2 h3
    unfold gr
    rw [if_neg h0, if_neg h0']
    split
    · exact Int.mul_le_mul h4 h1 (by omega) (by omega)
    · split
      · exact Int.mul_le_mul h4 p2 (by omega) (by omega)
      · have q1 := mn_mono (x := gn re w r k - 1 + g) (y := w) (x' := gn re w' r' k' - 1 + g) (y' := w') (by omega) h1
        have q2 := Int.mul_le_mul (a := j - 1) (b := mn g w) (c := j' - 1) (d := mn g w') (by omega) (mn_mono (Int.le_refl g) h1) (mn_nn hg (by omega)) (by omega)
        omega
theorem ls_mono (hw : 1 ≤ w) (hr : 1 ≤ r) (hk : 0 ≤ k) (hj : 0 ≤ j) (hg : 0 ≤ g) (h1 : w ≤ w') (h2 : r ≤ r') (h3 : k ≤ k') (h4 : j ≤ j') : ls re w r a g k j ≤ ls re w' r' a g k' j' := by
  have := gr_mono (re := re) (a := a) hw hr hk hj hg h1 h2 h3 h4
  unfold ls mx
  cases re <;> simp only [Bool.false_eq_true, if_false, if_true] <;> (repeat' split) <;> omega
end
end Lw
namespace Lw
open PySem Pm
theorem grp_ne {a : Str} {g : Int} (h : grp a g) (hg : 0 < g) : a ≠ Str.ofString "free" ∧ a ≠ Str.ofString "fresh" := by
  have h1 := group_ok h
  constructor
  · rintro rfl
    have h2 : F_f_group_of [.str (Str.ofString "free")] = .ok (.int 0) [] := rfl
    rw [h2] at h1
    injection h1 with h3
    injection h3 with h4
    omega
  · rintro rfl
    have h2 : F_f_group_of [.str (Str.ofString "fresh")] = .ok (.int 0) [] := rfl
    rw [h2] at h1
    injection h1 with h3
    injection h3 with h4
    omega
theorem grp_0 {a : Str} (h : grp a 0) : a ≠ Str.ofString "free" → a = Str.ofString "fresh" := by
  intro hn
  rcases h with ⟨_, h⟩ | ⟨h, _⟩ | ⟨h, _⟩ | ⟨n, _, h, _⟩
  · cases h
  · exact absurd h hn
  · exact h
  · omega
/-- the law's small and far -/
def smL (w r k : Int) (s : Str) : Int := if s = Str.ofString "none" ∨ (s = Str.ofString "last" ∧ w > 1) then mn (mn r w) (k + 1) else mn r w
def farL (w : Int) (s : Str) : Int := if s = Str.ofString "none" ∨ (s = Str.ofString "last" ∧ w > 1) then 1 else w
theorem re_iff {w : Int} {s : Str} (hw : 1 ≤ w) (hs : four s) : isRe w s = true ↔ ¬ (s = Str.ofString "none" ∨ (s = Str.ofString "last" ∧ w > 1)) := by
  rcases hs with rfl | rfl | rfl | rfl
  · exact ⟨fun _ z => by rcases z with z | ⟨z, _⟩ <;> exact absurd z (by decide), fun _ => rfl⟩
  · exact ⟨fun _ z => by rcases z with z | ⟨z, _⟩ <;> exact absurd z (by decide), fun _ => rfl⟩
  · have e : isRe w (Str.ofString "last") = decide (w = 1) := by
      unfold isRe
      rw [decide_eq_false (show ¬ Str.ofString "last" = Str.ofString "any" by decide), decide_eq_false (show ¬ Str.ofString "last" = Str.ofString "first" by decide), decide_eq_true (show Str.ofString "last" = Str.ofString "last" from rfl)]
      rfl
    rw [e]
    constructor
    · intro z y
      have : w = 1 := by simpa using z
      rcases y with y | ⟨_, y⟩
      · exact absurd y (by decide)
      · omega
    · intro y
      have : w = 1 := by
        by_cases z : w > 1
        · exact absurd (.inr ⟨rfl, z⟩) y
        · omega
      simpa using this
  · have e : isRe w (Str.ofString "none") = false := by
      unfold isRe
      rw [decide_eq_false (show ¬ Str.ofString "none" = Str.ofString "any" by decide), decide_eq_false (show ¬ Str.ofString "none" = Str.ofString "first" by decide), decide_eq_false (show ¬ Str.ofString "none" = Str.ofString "last" by decide)]
      rfl
    rw [e]
    exact ⟨fun z => (nomatch z), fun z => absurd (.inl rfl) z⟩
theorem sm_gn {w r k : Int} {s : Str} (hw : 1 ≤ w) (hs : four s) : smL w r k s = gn (isRe w s) w r k := by
  unfold smL gn
  by_cases h : isRe w s = true
  · rw [if_neg ((re_iff hw hs).mp h), if_pos h]
    unfold mn; split <;> split <;> omega
  · rw [if_pos (Classical.byContradiction fun z => h ((re_iff hw hs).mpr z)), if_neg h]
    unfold mn min3; (repeat' split) <;> omega
theorem far_re {w : Int} {s : Str} (hw : 1 ≤ w) (hs : four s) : farL w s = if isRe w s then w else 1 := by
  unfold farL
  by_cases h : isRe w s = true
  · rw [if_neg ((re_iff hw hs).mp h), if_pos h]
  · rw [if_pos (Classical.byContradiction fun z => h ((re_iff hw hs).mpr z)), if_neg h]
theorem smL_t {w r k : Int} {s : Str} (h : s = Str.ofString "none" ∨ (s = Str.ofString "last" ∧ w > 1)) : smL w r k s = mn (mn r w) (k + 1) := if_pos h
theorem smL_f {w r k : Int} {s : Str} (h : ¬ (s = Str.ofString "none" ∨ (s = Str.ofString "last" ∧ w > 1))) : smL w r k s = mn r w := if_neg h
theorem farL_t {w : Int} {s : Str} (h : s = Str.ofString "none" ∨ (s = Str.ofString "last" ∧ w > 1)) : farL w s = 1 := if_pos h
theorem farL_f {w : Int} {s : Str} (h : ¬ (s = Str.ofString "none" ∨ (s = Str.ofString "last" ∧ w > 1))) : farL w s = w := if_neg h
section
variable {re : Bool} {w r g k j : Int} {a : Str}
theorem gr_0 : gr re w r a g k 0 = 0 := if_pos rfl
theorem gr_free (h : j ≠ 0) (h1 : a = Str.ofString "free") : gr re w r a g k j = j * w := by rw [gr, if_neg h, if_pos h1]
theorem gr_fresh (h : j ≠ 0) (h1 : a ≠ Str.ofString "free") (h2 : a = Str.ofString "fresh") : gr re w r a g k j = j * gn re w r k := by rw [gr, if_neg h, if_neg h1, if_pos h2]
theorem gr_else (h : j ≠ 0) (h1 : a ≠ Str.ofString "free") (h2 : a ≠ Str.ofString "fresh") : gr re w r a g k j = mn (gn re w r k - 1 + g) w + (j - 1) * mn g w := by rw [gr, if_neg h, if_neg h1, if_neg h2]
end
theorem least_law {w r g k j : Int} {a s : Str} (hw : 1 ≤ w ∧ w ≤ 1000) (hr : 1 ≤ r ∧ r ≤ 1000) (hg : grp a g) (hs : four s) (hk : 0 ≤ k ∧ k ≤ 1000) (hj : 0 ≤ j ∧ j ≤ 1000) :
    F_f_law_least [.int w, .int r, .int g, .str a, .str s, .int k, .int j] = .ok (.int (ls (isRe w s) w r a g k j)) [] := by
  refine def_ok (env := [.int w, .int r, .int g, .str a, .str s, .int k, .int j, .un, .un, .un]) rfl ?_
  have gp := grp_pos hg
  unfold B_f_law_least
  (with_reducible (refine wp_sSeq ?_; refine wp_sSet ?_; refine wp_eB ?_; refine wp_aCons ?_; refine wp_eTk ?_; refine gv_s ?_; refine gv_0 ?_; refine nu_int ?_; refine st_s ?_; refine st_0 ?_; refine wp_aCons ?_; refine wp_eTk ?_; refine gv_0 ?_; refine nu_int ?_; refine st_0 ?_; refine wp_aNil ?_; refine o_minB ?_; refine pbk_s ?_; refine st_s ?_; refine st_0 ?_; refine pbk_s ?_; refine st_0 ?_; refine pbk_0 ?_; refine st_s ?_; refine st_s ?_; refine st_s ?_; refine st_s ?_; refine st_s ?_; refine st_s ?_; refine st_s ?_; refine st_0 ?_; refine sq_nx ?_; refine wp_sSeq ?_; refine wp_sSet ?_; refine wp_eV ?_; refine gv_0 ?_; refine nu_int ?_; refine fz_int ?_; refine st_0 ?_; refine st_s ?_; refine st_s ?_; refine st_s ?_; refine st_s ?_; refine st_s ?_; refine st_s ?_; refine st_s ?_; refine st_s ?_; refine st_0 ?_; refine sq_nx ?_))
  refine wp_cut (fun e => e = [.int w, .int r, .int g, .str a, .str s, .int k, .int j, .int (smL w r k s), .int (farL w s), .un]) ?_ ?_
  · (with_reducible (refine wp_sIf ?_; refine wp_qOr ?_; refine wp_qB ?_; refine wp_eBin ?_; refine wp_eV ?_; refine gv_s ?_; refine gv_s ?_; refine gv_s ?_; refine gv_s ?_; refine gv_0 ?_; refine nu_str ?_; refine fz_str ?_; refine st_s ?_; refine st_s ?_; refine st_s ?_; refine st_s ?_; refine st_0 ?_; refine wp_eC ?_; refine o_eqS ?_; refine o_toB ?_))
    refine br_d (fun h => ?_) (fun h => ?_)
    · (with_reducible (refine br_t ?_; refine wp_sSeq ?_; refine wp_sSet ?_; refine wp_eB ?_; refine wp_aCons ?_; refine wp_eTk ?_; refine gv_s ?_; refine gv_s ?_; refine gv_s ?_; refine gv_s ?_; refine gv_s ?_; refine gv_s ?_; refine gv_s ?_; refine gv_0 ?_; refine nu_int ?_; refine st_s ?_; refine st_s ?_; refine st_s ?_; refine st_s ?_; refine st_s ?_; refine st_s ?_; refine st_s ?_; refine st_0 ?_; refine wp_aCons ?_; refine wp_eBin ?_; refine wp_eV ?_; refine gv_s ?_; refine gv_s ?_; refine gv_s ?_; refine gv_s ?_; refine gv_s ?_; refine gv_0 ?_; refine nu_int ?_; refine fz_int ?_; refine st_s ?_; refine st_s ?_; refine st_s ?_; refine st_s ?_; refine st_s ?_; refine st_0 ?_; refine wp_eC ?_; refine o_add ?_; refine wp_aNil ?_; refine o_minB ?_; refine pbk_s ?_; refine st_s ?_; refine st_s ?_; refine st_s ?_; refine st_s ?_; refine st_s ?_; refine st_s ?_; refine st_s ?_; refine st_0 ?_; refine pbk_n ?_; refine pbk_0 ?_; refine st_s ?_; refine st_s ?_; refine st_s ?_; refine st_s ?_; refine st_s ?_; refine st_s ?_; refine st_s ?_; refine st_0 ?_; refine sq_nx ?_; refine wp_sSet ?_; refine wp_eC ?_; refine st_s ?_; refine st_s ?_; refine st_s ?_; refine st_s ?_; refine st_s ?_; refine st_s ?_; refine st_s ?_; refine st_s ?_; refine st_0 ?_; refine ⟨by with_unfolding_all rfl, ?_⟩))
      rw [smL_t (.inl h), farL_t (.inl h)]
      rfl
    · (with_reducible (refine wp_qAnd ?_; refine wp_qB ?_; refine wp_eBin ?_; refine wp_eV ?_; refine gv_s ?_; refine gv_s ?_; refine gv_s ?_; refine gv_s ?_; refine gv_0 ?_; refine nu_str ?_; refine fz_str ?_; refine st_s ?_; refine st_s ?_; refine st_s ?_; refine st_s ?_; refine st_0 ?_; refine wp_eC ?_; refine o_eqS ?_; refine o_toB ?_))
      refine br_d (fun h1 => ?_) (fun h1 => ?_)
      · (with_reducible (refine wp_qB ?_; refine wp_eBin ?_; refine wp_eV ?_; refine gv_0 ?_; refine nu_int ?_; refine fz_int ?_; refine st_0 ?_; refine wp_eC ?_; refine o_gt ?_; refine o_toB ?_))
        refine br_d (fun h2 => ?_) (fun h2 => ?_)
        · (with_reducible (refine wp_sSeq ?_; refine wp_sSet ?_; refine wp_eB ?_; refine wp_aCons ?_; refine wp_eTk ?_; refine gv_s ?_; refine gv_s ?_; refine gv_s ?_; refine gv_s ?_; refine gv_s ?_; refine gv_s ?_; refine gv_s ?_; refine gv_0 ?_; refine nu_int ?_; refine st_s ?_; refine st_s ?_; refine st_s ?_; refine st_s ?_; refine st_s ?_; refine st_s ?_; refine st_s ?_; refine st_0 ?_; refine wp_aCons ?_; refine wp_eBin ?_; refine wp_eV ?_; refine gv_s ?_; refine gv_s ?_; refine gv_s ?_; refine gv_s ?_; refine gv_s ?_; refine gv_0 ?_; refine nu_int ?_; refine fz_int ?_; refine st_s ?_; refine st_s ?_; refine st_s ?_; refine st_s ?_; refine st_s ?_; refine st_0 ?_; refine wp_eC ?_; refine o_add ?_; refine wp_aNil ?_; refine o_minB ?_; refine pbk_s ?_; refine st_s ?_; refine st_s ?_; refine st_s ?_; refine st_s ?_; refine st_s ?_; refine st_s ?_; refine st_s ?_; refine st_0 ?_; refine pbk_n ?_; refine pbk_0 ?_; refine st_s ?_; refine st_s ?_; refine st_s ?_; refine st_s ?_; refine st_s ?_; refine st_s ?_; refine st_s ?_; refine st_0 ?_; refine sq_nx ?_; refine wp_sSet ?_; refine wp_eC ?_; refine st_s ?_; refine st_s ?_; refine st_s ?_; refine st_s ?_; refine st_s ?_; refine st_s ?_; refine st_s ?_; refine st_s ?_; refine st_0 ?_; refine ⟨by with_unfolding_all rfl, ?_⟩))
          rw [smL_t (.inr ⟨h1, h2⟩), farL_t (.inr ⟨h1, h2⟩)]
          rfl
        · (with_reducible (refine wp_sNx ?_; refine ⟨by with_unfolding_all rfl, ?_⟩))
          have hn : ¬ (s = Str.ofString "none" ∨ (s = Str.ofString "last" ∧ w > 1)) := fun z => z.elim h fun z => h2 z.2
          rw [smL_f hn, farL_f hn]
          rfl
      · (with_reducible (refine br_f ?_; refine wp_sNx ?_; refine ⟨by with_unfolding_all rfl, ?_⟩))
        have hn : ¬ (s = Str.ofString "none" ∨ (s = Str.ofString "last" ∧ w > 1)) := fun z => z.elim h fun z => h1 z.1
        rw [smL_f hn, farL_f hn]
        rfl
  · rintro e rfl
    rw [sm_gn hw.1 hs, far_re hw.1 hs]
    (with_reducible (refine wp_sSeq ?_; refine wp_sSet ?_; refine wp_eC ?_; refine st_s ?_; refine st_s ?_; refine st_s ?_; refine st_s ?_; refine st_s ?_; refine st_s ?_; refine st_s ?_; refine st_s ?_; refine st_s ?_; refine st_0 ?_; refine sq_nx ?_))
    refine wp_cut (fun e => e = [.int w, .int r, .int g, .str a, .str s, .int k, .int j, .int (gn (isRe w s) w r k), .int (if isRe w s then w else 1), .int (gr (isRe w s) w r a g k j)]) ?_ ?_
    · have h0 : (0 : Int) * w = 0 := Int.zero_mul w
      have h1 : (0 : Int) * gn (isRe w s) w r k = 0 := Int.zero_mul _
      (with_reducible (refine wp_sIf ?_; refine wp_qAnd ?_; refine wp_qB ?_; refine wp_eBin ?_; refine wp_eV ?_; refine gv_s ?_; refine gv_s ?_; refine gv_s ?_; refine gv_s ?_; refine gv_s ?_; refine gv_s ?_; refine gv_0 ?_; refine nu_int ?_; refine fz_int ?_; refine st_s ?_; refine st_s ?_; refine st_s ?_; refine st_s ?_; refine st_s ?_; refine st_s ?_; refine st_0 ?_; refine wp_eC ?_; refine o_gt ?_; refine o_toB ?_))
      refine br_d (fun hj0 => ?_) (fun hj0 => ?_)
      · (with_reducible (refine wp_qB ?_; refine wp_eBin ?_; refine wp_eV ?_; refine gv_s ?_; refine gv_s ?_; refine gv_0 ?_; refine nu_int ?_; refine fz_int ?_; refine st_s ?_; refine st_s ?_; refine st_0 ?_; refine wp_eC ?_; refine o_gt ?_; refine o_toB ?_))
        refine br_d (fun hg0 => ?_) (fun hg0 => ?_)
        · (with_reducible (refine wp_sSet ?_; refine wp_eBin ?_; refine wp_eB ?_; refine wp_aCons ?_; refine wp_eBin ?_; refine wp_eBin ?_; refine wp_eV ?_; refine gv_s ?_; refine gv_s ?_; refine gv_s ?_; refine gv_s ?_; refine gv_s ?_; refine gv_s ?_; refine gv_s ?_; refine gv_0 ?_; refine nu_int ?_; refine fz_int ?_; refine st_s ?_; refine st_s ?_; refine st_s ?_; refine st_s ?_; refine st_s ?_; refine st_s ?_; refine st_s ?_; refine st_0 ?_; refine wp_eC ?_; refine o_sub ?_; refine wp_eV ?_; refine gv_s ?_; refine gv_s ?_; refine gv_0 ?_; refine nu_int ?_; refine fz_int ?_; refine st_s ?_; refine st_s ?_; refine st_0 ?_; refine o_add ?_; refine wp_aCons ?_; refine wp_eTk ?_; refine gv_0 ?_; refine nu_int ?_; refine st_0 ?_; refine wp_aNil ?_; refine o_minB ?_; refine pbk_n ?_; refine pbk_s ?_; refine st_0 ?_; refine pbk_0 ?_; refine wp_eBin ?_; refine wp_eBin ?_; refine wp_eV ?_; refine gv_s ?_; refine gv_s ?_; refine gv_s ?_; refine gv_s ?_; refine gv_s ?_; refine gv_s ?_; refine gv_0 ?_; refine nu_int ?_; refine fz_int ?_; refine st_s ?_; refine st_s ?_; refine st_s ?_; refine st_s ?_; refine st_s ?_; refine st_s ?_; refine st_0 ?_; refine wp_eC ?_; refine o_sub ?_; refine wp_eB ?_; refine wp_aCons ?_; refine wp_eTk ?_; refine gv_s ?_; refine gv_s ?_; refine gv_0 ?_; refine nu_int ?_; refine st_s ?_; refine st_s ?_; refine st_0 ?_; refine wp_aCons ?_; refine wp_eTk ?_; refine gv_0 ?_; refine nu_int ?_; refine st_0 ?_; refine wp_aNil ?_; refine o_minB ?_; refine pbk_s ?_; refine st_s ?_; refine st_s ?_; refine st_0 ?_; refine pbk_s ?_; refine st_0 ?_; refine pbk_0 ?_; refine o_mul (by omega) ?_; refine o_add ?_; refine st_s ?_; refine st_s ?_; refine st_s ?_; refine st_s ?_; refine st_s ?_; refine st_s ?_; refine st_s ?_; refine st_s ?_; refine st_s ?_; refine st_0 ?_; refine ⟨by with_unfolding_all rfl, ?_⟩))
          obtain ⟨n1, n2⟩ := grp_ne hg hg0
          rw [gr_else (by omega) n1 n2]
          rfl
        · (with_reducible (refine wp_sIf ?_; refine wp_qB ?_; refine wp_eBin ?_; refine wp_eV ?_; refine gv_s ?_; refine gv_s ?_; refine gv_s ?_; refine gv_0 ?_; refine nu_str ?_; refine fz_str ?_; refine st_s ?_; refine st_s ?_; refine st_s ?_; refine st_0 ?_; refine wp_eC ?_; refine o_eqS ?_; refine o_toB ?_))
          have : g = 0 := by omega
          subst this
          refine br_d (fun hf => ?_) (fun hf => ?_)
          · (with_reducible (refine wp_sSet ?_; refine wp_eBin ?_; refine wp_eV ?_; refine gv_s ?_; refine gv_s ?_; refine gv_s ?_; refine gv_s ?_; refine gv_s ?_; refine gv_s ?_; refine gv_0 ?_; refine nu_int ?_; refine fz_int ?_; refine st_s ?_; refine st_s ?_; refine st_s ?_; refine st_s ?_; refine st_s ?_; refine st_s ?_; refine st_0 ?_; refine wp_eV ?_; refine gv_0 ?_; refine nu_int ?_; refine fz_int ?_; refine st_0 ?_; refine o_mul (by omega) ?_; refine st_s ?_; refine st_s ?_; refine st_s ?_; refine st_s ?_; refine st_s ?_; refine st_s ?_; refine st_s ?_; refine st_s ?_; refine st_s ?_; refine st_0 ?_; refine ⟨by with_unfolding_all rfl, ?_⟩))
            rw [gr_free (by omega) hf]
          · (with_reducible (refine wp_sIf ?_; refine wp_qB ?_; refine wp_eBin ?_; refine wp_eV ?_; refine gv_s ?_; refine gv_s ?_; refine gv_0 ?_; refine nu_int ?_; refine fz_int ?_; refine st_s ?_; refine st_s ?_; refine st_0 ?_; refine wp_eC ?_; refine o_eqI ?_; refine o_toB ?_; refine br_dT (by omega) ?_; refine wp_sSet ?_; refine wp_eBin ?_; refine wp_eV ?_; refine gv_s ?_; refine gv_s ?_; refine gv_s ?_; refine gv_s ?_; refine gv_s ?_; refine gv_s ?_; refine gv_0 ?_; refine nu_int ?_; refine fz_int ?_; refine st_s ?_; refine st_s ?_; refine st_s ?_; refine st_s ?_; refine st_s ?_; refine st_s ?_; refine st_0 ?_; refine wp_eV ?_; refine gv_s ?_; refine gv_s ?_; refine gv_s ?_; refine gv_s ?_; refine gv_s ?_; refine gv_s ?_; refine gv_s ?_; refine gv_0 ?_; refine nu_int ?_; refine fz_int ?_; refine st_s ?_; refine st_s ?_; refine st_s ?_; refine st_s ?_; refine st_s ?_; refine st_s ?_; refine st_s ?_; refine st_0 ?_; refine o_mul (by omega) ?_; refine st_s ?_; refine st_s ?_; refine st_s ?_; refine st_s ?_; refine st_s ?_; refine st_s ?_; refine st_s ?_; refine st_s ?_; refine st_s ?_; refine st_0 ?_; refine ⟨by with_unfolding_all rfl, ?_⟩))
            rw [gr_fresh (by omega) hf (grp_0 hg hf)]
      · have : j = 0 := by omega
        subst this
        (with_reducible (refine br_f ?_; refine wp_sIf ?_; refine wp_qB ?_; refine wp_eBin ?_; refine wp_eV ?_; refine gv_s ?_; refine gv_s ?_; refine gv_s ?_; refine gv_0 ?_; refine nu_str ?_; refine fz_str ?_; refine st_s ?_; refine st_s ?_; refine st_s ?_; refine st_0 ?_; refine wp_eC ?_; refine o_eqS ?_; refine o_toB ?_))
        refine br_d (fun hf => ?_) (fun hf => ?_)
        · (with_reducible (refine wp_sSet ?_; refine wp_eBin ?_; refine wp_eV ?_; refine gv_s ?_; refine gv_s ?_; refine gv_s ?_; refine gv_s ?_; refine gv_s ?_; refine gv_s ?_; refine gv_0 ?_; refine nu_int ?_; refine fz_int ?_; refine st_s ?_; refine st_s ?_; refine st_s ?_; refine st_s ?_; refine st_s ?_; refine st_s ?_; refine st_0 ?_; refine wp_eV ?_; refine gv_0 ?_; refine nu_int ?_; refine fz_int ?_; refine st_0 ?_; refine o_mul (by omega) ?_; refine st_s ?_; refine st_s ?_; refine st_s ?_; refine st_s ?_; refine st_s ?_; refine st_s ?_; refine st_s ?_; refine st_s ?_; refine st_s ?_; refine st_0 ?_; refine ⟨by with_unfolding_all rfl, ?_⟩))
          rw [gr_0, h0]
        · (with_reducible (refine wp_sIf ?_; refine wp_qB ?_; refine wp_eBin ?_; refine wp_eV ?_; refine gv_s ?_; refine gv_s ?_; refine gv_0 ?_; refine nu_int ?_; refine fz_int ?_; refine st_s ?_; refine st_s ?_; refine st_0 ?_; refine wp_eC ?_; refine o_eqI ?_; refine o_toB ?_))
          refine br_d (fun hg0 => ?_) (fun hg0 => ?_)
          · (with_reducible (refine wp_sSet ?_; refine wp_eBin ?_; refine wp_eV ?_; refine gv_s ?_; refine gv_s ?_; refine gv_s ?_; refine gv_s ?_; refine gv_s ?_; refine gv_s ?_; refine gv_0 ?_; refine nu_int ?_; refine fz_int ?_; refine st_s ?_; refine st_s ?_; refine st_s ?_; refine st_s ?_; refine st_s ?_; refine st_s ?_; refine st_0 ?_; refine wp_eV ?_; refine gv_s ?_; refine gv_s ?_; refine gv_s ?_; refine gv_s ?_; refine gv_s ?_; refine gv_s ?_; refine gv_s ?_; refine gv_0 ?_; refine nu_int ?_; refine fz_int ?_; refine st_s ?_; refine st_s ?_; refine st_s ?_; refine st_s ?_; refine st_s ?_; refine st_s ?_; refine st_s ?_; refine st_0 ?_; refine o_mul (by omega) ?_; refine st_s ?_; refine st_s ?_; refine st_s ?_; refine st_s ?_; refine st_s ?_; refine st_s ?_; refine st_s ?_; refine st_s ?_; refine st_s ?_; refine st_0 ?_; refine ⟨by with_unfolding_all rfl, ?_⟩))
            rw [gr_0, h1]
          · (with_reducible (refine wp_sNx ?_; refine ⟨by with_unfolding_all rfl, ?_⟩))
            rw [gr_0]
    · rintro e rfl
      (with_reducible (refine wp_sRt ?_; refine wp_eB ?_; refine wp_aCons ?_; refine wp_eBin ?_; refine wp_eBin ?_; refine wp_eV ?_; refine gv_s ?_; refine gv_s ?_; refine gv_s ?_; refine gv_s ?_; refine gv_s ?_; refine gv_s ?_; refine gv_s ?_; refine gv_s ?_; refine gv_0 ?_; refine nu_int ?_; refine fz_int ?_; refine st_s ?_; refine st_s ?_; refine st_s ?_; refine st_s ?_; refine st_s ?_; refine st_s ?_; refine st_s ?_; refine st_s ?_; refine st_0 ?_; refine wp_eV ?_; refine gv_s ?_; refine gv_0 ?_; refine nu_int ?_; refine fz_int ?_; refine st_s ?_; refine st_0 ?_; refine o_add ?_; refine wp_eV ?_; refine gv_s ?_; refine gv_s ?_; refine gv_s ?_; refine gv_s ?_; refine gv_s ?_; refine gv_0 ?_; refine nu_int ?_; refine fz_int ?_; refine st_s ?_; refine st_s ?_; refine st_s ?_; refine st_s ?_; refine st_s ?_; refine st_0 ?_; refine o_add ?_; refine wp_aCons ?_; refine wp_eBin ?_; refine wp_eBin ?_; refine wp_eV ?_; refine gv_0 ?_; refine nu_int ?_; refine fz_int ?_; refine st_0 ?_; refine wp_eC ?_; refine o_add ?_; refine wp_eV ?_; refine gv_s ?_; refine gv_s ?_; refine gv_s ?_; refine gv_s ?_; refine gv_s ?_; refine gv_s ?_; refine gv_s ?_; refine gv_s ?_; refine gv_s ?_; refine gv_0 ?_; refine nu_int ?_; refine fz_int ?_; refine st_s ?_; refine st_s ?_; refine st_s ?_; refine st_s ?_; refine st_s ?_; refine st_s ?_; refine st_s ?_; refine st_s ?_; refine st_s ?_; refine st_0 ?_; refine o_add ?_; refine wp_aNil ?_; refine o_maxB ?_; refine pbk_n ?_; refine pbk_n ?_; refine pbk_0 ?_; refine endF_rt (by with_unfolding_all rfl) (by with_unfolding_all rfl) ?_))
      rfl
end Lw
namespace Lw
open PySem Pm
structure Spec (f : Int → Int) (N lo hi x : Int) : Prop where
  flo : lo ≤ x
  fhi : x ≤ hi
  ok : lo < x → f x ≤ N
  no : x < hi → N < f (x + 1)
theorem Spec.uniq {f : Int → Int} {N lo hi x y : Int} (m : ∀ a b, lo < a → a ≤ b → b ≤ hi → f a ≤ f b) (h : Spec f N lo hi x) (h2 : Spec f N lo hi y) : x = y := by
  have h1 := h.flo; have h3 := h.fhi; have h4 := h2.flo; have h5 := h2.fhi
  by_cases z : x < y
  · have := h.no (by omega)
    have := h2.ok (by omega)
    have := m (x + 1) y (by omega) (by omega) (by omega)
    omega
  · by_cases z2 : y < x
    · have := h2.no (by omega)
      have := h.ok (by omega)
      have := m (y + 1) x (by omega) (by omega) (by omega)
      omega
    · omega
/-- on the way -/
structure Mid (f : Int → Int) (N lo hi x y : Int) : Prop where
  flo : lo ≤ x
  le : x ≤ y
  fhi : y ≤ hi
  ok : lo < x → f x ≤ N
  no : y < hi → N < f (y + 1)
theorem Mid.up {f : Int → Int} {N lo hi x y : Int} (h : Mid f N lo hi x y) (hl : x < y) (hf : f ((x + y + 1) / 2) ≤ N) : Mid f N lo hi ((x + y + 1) / 2) y := by
  have h1 := h.flo; have h2 := h.le; have h3 := h.fhi
  exact ⟨by omega, by omega, by omega, fun _ => hf, h.no⟩
theorem Mid.down {f : Int → Int} {N lo hi x y : Int} (h : Mid f N lo hi x y) (hl : x < y) (hf : ¬ f ((x + y + 1) / 2) ≤ N) : Mid f N lo hi x ((x + y + 1) / 2 - 1) := by
  have h1 := h.flo; have h2 := h.le; have h3 := h.fhi
  exact ⟨by omega, by omega, by omega, h.ok, fun _ => by rw [show (x + y + 1) / 2 - 1 + 1 = (x + y + 1) / 2 by omega]; omega⟩
theorem Mid.spec {f : Int → Int} {N lo hi x y : Int} (h : Mid f N lo hi x y) (he : ¬ x < y) : Spec f N lo hi x := by
  have h1 := h.flo; have h2 := h.le; have h3 := h.fhi
  have : x = y := by omega
  subst this
  exact ⟨h.flo, h.fhi, h.ok, h.no⟩
theorem ls_re {m r g k j : Int} {a s : Str} (hm : 1 ≤ m) (hr : 1 ≤ r) (hk : 0 ≤ k) (hs : four s) : ls (isRe m s) m r a g k j = ls (isRe 2 s) m r a g k j := by
  by_cases h : m = 1
  · subst h
    have e : gn (isRe 1 s) 1 r k = gn (isRe 2 s) 1 r k := by
      unfold gn mn min3
      (repeat' split) <;> omega
    unfold ls gr
    rw [e]
    have e2 : (if isRe 1 s = true then (1 : Int) else 1) = if isRe 2 s = true then 1 else 1 := by split <;> split <;> rfl
    rw [e2]
  · have e : isRe m s = isRe 2 s := by
      rcases hs with rfl | rfl | rfl | rfl
      · rfl
      · rfl
      · unfold isRe
        rw [decide_eq_false h]
        rfl
      · unfold isRe
        rw [decide_eq_false h]
        rfl
    rw [e]
theorem fW_mono {r g k j : Int} {a s : Str} (hr : 1 ≤ r) (hk : 0 ≤ k) (hj : 0 ≤ j) (hg : 0 ≤ g) (hs : four s) : ∀ x y, (0 : Int) < x → x ≤ y → y ≤ 1000 → ls (isRe x s) x r a g k j ≤ ls (isRe y s) y r a g k j := fun x y h0 h1 _ => by
  rw [ls_re (m := x) (by omega) hr hk hs, ls_re (m := y) (by omega) hr hk hs]
  exact ls_mono (by omega) hr hk hj hg h1 (Int.le_refl _) (Int.le_refl _) (Int.le_refl _)
theorem rate_le {rate t : Int} (hr : 1 ≤ rate) (h : t ≤ 1001 / rate - 1) : rate * (t + 1) ≤ 1001 := by
  have h1 : rate * (t + 1) ≤ rate * (1001 / rate) := Int.mul_le_mul_of_nonneg_left (by omega) (by omega)
  have h2 := Int.mul_ediv_self_le (x := 1001) (k := rate) (by omega)
  omega
theorem rate_ge {rate t : Int} (hr : 1 ≤ rate) (h : 0 ≤ t) : 1 ≤ rate * (t + 1) := by
  have := Int.mul_le_mul hr (show (1 : Int) ≤ t + 1 by omega) (by decide) (by omega)
  omega
theorem fL_mono {w r g j rate : Int} {a s : Str} (hw : 1 ≤ w) (hr : 1 ≤ r) (hj : 0 ≤ j) (hg : 0 ≤ g) (hra : 1 ≤ rate) (H : Int) : ∀ x y, (-1 : Int) < x → x ≤ y → y ≤ H → ls (isRe w s) w r a g (rate * (x + 1) - 1) j ≤ ls (isRe w s) w r a g (rate * (y + 1) - 1) j := fun x y h0 h1 _ => by
  have p1 := rate_ge hra (show (0 : Int) ≤ x by omega)
  have p2 : rate * (x + 1) ≤ rate * (y + 1) := Int.mul_le_mul_of_nonneg_left (by omega) (by omega)
  exact ls_mono hw hr (by omega) hj hg (Int.le_refl _) (Int.le_refl _) (by omega) (Int.le_refl _)
theorem window_ok {r g k j N : Int} {a s : Str} (hr : 1 ≤ r ∧ r ≤ 1000) (hg : grp a g) (hs : four s) (hk : 0 ≤ k ∧ k ≤ 1000) (hj : 0 ≤ j ∧ j ≤ 1000) :
    ∃ x : Int, F_f_law_window [.int r, .int g, .str a, .str s, .int k, .int j, .int N] = .ok (.int x) [] ∧ Spec (fun m => ls (isRe m s) m r a g k j) N 0 1000 x := by
  obtain ⟨r_, ps, h, v, rfl, rfl, hh⟩ := def_ex (b := B_f_law_window) (nl := 4) (mk := [false, false, false, false, false, false, false]) (ds := [.int r, .int g, .str a, .str s, .int k, .int j, .int N]) (env := [.int r, .int g, .str a, .str s, .int k, .int j, .int N, .un, .un, .un, .un]) (fun r_ ps => ∃ v : Int, r_ = .int v ∧ ps = [] ∧ Spec (fun m => ls (isRe m s) m r a g k j) N 0 1000 v) rfl (by
    unfold B_f_law_window
    (with_reducible (refine wp_sSeq ?_; refine wp_sSet ?_; refine wp_eC ?_; refine st_s ?_; refine st_s ?_; refine st_s ?_; refine st_s ?_; refine st_s ?_; refine st_s ?_; refine st_s ?_; refine st_0 ?_; refine sq_nx ?_; refine wp_sSeq ?_; refine wp_sSet ?_; refine wp_eC ?_; refine st_s ?_; refine st_s ?_; refine st_s ?_; refine st_s ?_; refine st_s ?_; refine st_s ?_; refine st_s ?_; refine st_s ?_; refine st_0 ?_; refine sq_nx ?_))
    (with_reducible (refine wp_sSeq ?_; refine wp_sFor ?_; refine wp_iRg1 ?_; refine wp_aCons ?_; refine wp_eC ?_; refine wp_aNil ?_; refine o_rng1 (by omega) ?_))
    refine wp_loop (fun i e => ∃ (x y : Int) (d9 d10 : D), (y - x) * 2 ^ i ≤ 1000 ∧ Mid (fun m => ls (isRe m s) m r a g k j) N 0 1000 x y ∧ e = [.int r, .int g, .str a, .str s, .int k, .int j, .int N, .int x, .int y, d9, d10]) _ ?_ ?_ ⟨0, 1000, _, _, by decide, ⟨by decide, by decide, by decide, fun z => absurd z (by decide), fun z => absurd z (by decide)⟩, rfl⟩
    · rintro i d env hd ⟨x, y, d9, d10, h1, h2, rfl⟩
      obtain ⟨rfl, hlt⟩ := rng_at hd
      have p0 := h2.flo; have p1 := h2.fhi
      (with_reducible (refine wp_gN ?_; refine st_s ?_; refine st_s ?_; refine st_s ?_; refine st_s ?_; refine st_s ?_; refine st_s ?_; refine st_s ?_; refine st_s ?_; refine st_s ?_; refine st_0 ?_; refine wp_sIf ?_; refine wp_qB ?_; refine wp_eBin ?_; refine wp_eV ?_; refine gv_s ?_; refine gv_s ?_; refine gv_s ?_; refine gv_s ?_; refine gv_s ?_; refine gv_s ?_; refine gv_s ?_; refine gv_0 ?_; refine nu_int ?_; refine fz_int ?_; refine st_s ?_; refine st_s ?_; refine st_s ?_; refine st_s ?_; refine st_s ?_; refine st_s ?_; refine st_s ?_; refine st_0 ?_; refine wp_eV ?_; refine gv_s ?_; refine gv_s ?_; refine gv_s ?_; refine gv_s ?_; refine gv_s ?_; refine gv_s ?_; refine gv_s ?_; refine gv_s ?_; refine gv_0 ?_; refine nu_int ?_; refine fz_int ?_; refine st_s ?_; refine st_s ?_; refine st_s ?_; refine st_s ?_; refine st_s ?_; refine st_s ?_; refine st_s ?_; refine st_s ?_; refine st_0 ?_; refine o_lt ?_; refine o_toB ?_))
      (focus (refine br_d (fun hc => ?_) (fun hc => ?_); rotate_left; (with_reducible (refine wp_sNx ?_; dsimp only)); rotate_left; (with_reducible (refine wp_sSeq ?_; refine wp_sSet ?_; refine wp_eBin ?_; refine wp_eBin ?_; refine wp_eBin ?_; refine wp_eV ?_; refine gv_s ?_; refine gv_s ?_; refine gv_s ?_; refine gv_s ?_; refine gv_s ?_; refine gv_s ?_; refine gv_s ?_; refine gv_0 ?_; refine nu_int ?_; refine fz_int ?_; refine st_s ?_; refine st_s ?_; refine st_s ?_; refine st_s ?_; refine st_s ?_; refine st_s ?_; refine st_s ?_; refine st_0 ?_; refine wp_eV ?_; refine gv_s ?_; refine gv_s ?_; refine gv_s ?_; refine gv_s ?_; refine gv_s ?_; refine gv_s ?_; refine gv_s ?_; refine gv_s ?_; refine gv_0 ?_; refine nu_int ?_; refine fz_int ?_; refine st_s ?_; refine st_s ?_; refine st_s ?_; refine st_s ?_; refine st_s ?_; refine st_s ?_; refine st_s ?_; refine st_s ?_; refine st_0 ?_; refine o_add ?_; refine wp_eC ?_; refine o_add ?_; refine wp_eC ?_; refine o_div (by omega) ?_; refine st_s ?_; refine st_s ?_; refine st_s ?_; refine st_s ?_; refine st_s ?_; refine st_s ?_; refine st_s ?_; refine st_s ?_; refine st_s ?_; refine st_s ?_; refine st_0 ?_; refine sq_nx ?_; refine wp_sIf ?_; refine wp_qB ?_; refine wp_eBin ?_; refine wp_eCall ?_; refine wp_aCons ?_; refine wp_eV ?_; refine gv_s ?_; refine gv_s ?_; refine gv_s ?_; refine gv_s ?_; refine gv_s ?_; refine gv_s ?_; refine gv_s ?_; refine gv_s ?_; refine gv_s ?_; refine gv_s ?_; refine gv_0 ?_; refine nu_int ?_; refine fz_int ?_; refine st_s ?_; refine st_s ?_; refine st_s ?_; refine st_s ?_; refine st_s ?_; refine st_s ?_; refine st_s ?_; refine st_s ?_; refine st_s ?_; refine st_s ?_; refine st_0 ?_; refine wp_aCons ?_; refine wp_eV ?_; refine gv_0 ?_; refine nu_int ?_; refine fz_int ?_; refine st_0 ?_; refine wp_aCons ?_; refine wp_eV ?_; refine gv_s ?_; refine gv_0 ?_; refine nu_int ?_; refine fz_int ?_; refine st_s ?_; refine st_0 ?_; refine wp_aCons ?_; refine wp_eV ?_; refine gv_s ?_; refine gv_s ?_; refine gv_0 ?_; refine nu_str ?_; refine fz_str ?_; refine st_s ?_; refine st_s ?_; refine st_0 ?_; refine wp_aCons ?_; refine wp_eV ?_; refine gv_s ?_; refine gv_s ?_; refine gv_s ?_; refine gv_0 ?_; refine nu_str ?_; refine fz_str ?_; refine st_s ?_; refine st_s ?_; refine st_s ?_; refine st_0 ?_; refine wp_aCons ?_; refine wp_eV ?_; refine gv_s ?_; refine gv_s ?_; refine gv_s ?_; refine gv_s ?_; refine gv_0 ?_; refine nu_int ?_; refine fz_int ?_; refine st_s ?_; refine st_s ?_; refine st_s ?_; refine st_s ?_; refine st_0 ?_; refine wp_aCons ?_; refine wp_eV ?_; refine gv_s ?_; refine gv_s ?_; refine gv_s ?_; refine gv_s ?_; refine gv_s ?_; refine gv_0 ?_; refine nu_int ?_; refine fz_int ?_; refine st_s ?_; refine st_s ?_; refine st_s ?_; refine st_s ?_; refine st_s ?_; refine st_0 ?_; refine wp_aNil ?_))))
      · have q := least_law (w := (x + y + 1) / 2) (by omega) hr hg hs hk hj
        (with_reducible (refine fF_of (by assumption) ?_; refine pbc_n ?_; refine pbc_n ?_; refine pbc_n ?_; refine pbc_n ?_; refine pbc_n ?_; refine pbc_n ?_; refine pbc_n ?_; refine pbc_0 ?_; refine wp_eV ?_; refine gv_s ?_; refine gv_s ?_; refine gv_s ?_; refine gv_s ?_; refine gv_s ?_; refine gv_s ?_; refine gv_0 ?_; refine nu_int ?_; refine fz_int ?_; refine st_s ?_; refine st_s ?_; refine st_s ?_; refine st_s ?_; refine st_s ?_; refine st_s ?_; refine st_0 ?_; refine o_le ?_; refine o_toB ?_))
        have hp : (2 : Int) ^ (i + 1) = 2 ^ i * 2 := Int.pow_succ 2 i
        have hp0 : (0 : Int) < 2 ^ i := Int.pow_pos (by decide)
        (focus (refine br_d (fun hf => ?_) (fun hf => ?_); rotate_left; (with_reducible (refine wp_sSet ?_; refine wp_eBin ?_; refine wp_eV ?_; refine gv_s ?_; refine gv_s ?_; refine gv_s ?_; refine gv_s ?_; refine gv_s ?_; refine gv_s ?_; refine gv_s ?_; refine gv_s ?_; refine gv_s ?_; refine gv_s ?_; refine gv_0 ?_; refine nu_int ?_; refine fz_int ?_; refine st_s ?_; refine st_s ?_; refine st_s ?_; refine st_s ?_; refine st_s ?_; refine st_s ?_; refine st_s ?_; refine st_s ?_; refine st_s ?_; refine st_s ?_; refine st_0 ?_; refine wp_eC ?_; refine o_sub ?_; refine st_s ?_; refine st_s ?_; refine st_s ?_; refine st_s ?_; refine st_s ?_; refine st_s ?_; refine st_s ?_; refine st_s ?_; refine st_0 ?_; dsimp only)); rotate_left; (with_reducible (refine wp_sSet ?_; refine wp_eV ?_; refine gv_s ?_; refine gv_s ?_; refine gv_s ?_; refine gv_s ?_; refine gv_s ?_; refine gv_s ?_; refine gv_s ?_; refine gv_s ?_; refine gv_s ?_; refine gv_s ?_; refine gv_0 ?_; refine nu_int ?_; refine fz_int ?_; refine st_s ?_; refine st_s ?_; refine st_s ?_; refine st_s ?_; refine st_s ?_; refine st_s ?_; refine st_s ?_; refine st_s ?_; refine st_s ?_; refine st_s ?_; refine st_0 ?_; refine st_s ?_; refine st_s ?_; refine st_s ?_; refine st_s ?_; refine st_s ?_; refine st_s ?_; refine st_s ?_; refine st_0 ?_; dsimp only))))
        · refine ⟨_, _, _, _, ?_, h2.up hc hf, rfl⟩
          rw [hp, ← Int.mul_assoc]
          have : (y - (x + y + 1) / 2) * 2 ≤ y - x := by omega
          have := Int.mul_le_mul_of_nonneg_right this (Int.le_of_lt hp0)
          rw [Int.mul_assoc, Int.mul_comm 2, ← Int.mul_assoc] at this
          omega
        · refine ⟨_, _, _, _, ?_, h2.down hc hf, rfl⟩
          rw [hp, ← Int.mul_assoc]
          have : ((x + y + 1) / 2 - 1 - x) * 2 ≤ y - x := by omega
          have := Int.mul_le_mul_of_nonneg_right this (Int.le_of_lt hp0)
          rw [Int.mul_assoc, Int.mul_comm 2, ← Int.mul_assoc] at this
          omega
      · refine ⟨_, _, _, _, ?_, h2, rfl⟩
        have : y - x = 0 := by have := h2.le; omega
        rw [this, Int.zero_mul]; decide
    · rintro env ⟨x, y, d9, d10, h1, h2, rfl⟩
      (with_reducible (refine sq_nx ?_; refine wp_sRt ?_; refine wp_eTk ?_; refine gv_s ?_; refine gv_s ?_; refine gv_s ?_; refine gv_s ?_; refine gv_s ?_; refine gv_s ?_; refine gv_s ?_; refine gv_0 ?_; refine nu_int ?_; refine st_s ?_; refine st_s ?_; refine st_s ?_; refine st_s ?_; refine st_s ?_; refine st_s ?_; refine st_s ?_; refine st_0 ?_; refine endP_rt (by with_unfolding_all rfl) ?_))
      refine ⟨_, rfl, rfl, h2.spec ?_⟩
      rw [rng_len] at h1
      have : (2 : Int) ^ ((12 : Int) - 0).toNat = 4096 := by decide
      rw [this] at h1
      omega)
  exact ⟨v, h, hh⟩
end Lw
namespace Lw
open PySem Pm
theorem longest_law {w r g j rate N : Int} {a s : Str} (hw : 1 ≤ w ∧ w ≤ 1000) (hr : 1 ≤ r ∧ r ≤ 1000) (hg : grp a g) (hs : four s) (hra : 1 ≤ rate ∧ rate ≤ 1000) (hj : 0 ≤ j ∧ j ≤ 1000) :
    ∃ x : Int, F_f_law_longest [.int w, .int r, .int g, .str a, .str s, .int rate, .int j, .int N] = .ok (.int x) [] ∧ Spec (fun t => ls (isRe w s) w r a g (rate * (t + 1) - 1) j) N (-1) (1001 / rate - 1) x := by
  obtain ⟨r_, ps, h, v, rfl, rfl, hh⟩ := def_ex (b := B_f_law_longest) (nl := 4) (mk := [false, false, false, false, false, false, false, false]) (ds := [.int w, .int r, .int g, .str a, .str s, .int rate, .int j, .int N]) (env := [.int w, .int r, .int g, .str a, .str s, .int rate, .int j, .int N, .un, .un, .un, .un]) (fun r_ ps => ∃ v : Int, r_ = .int v ∧ ps = [] ∧ Spec (fun t => ls (isRe w s) w r a g (rate * (t + 1) - 1) j) N (-1) (1001 / rate - 1) v) rfl (by
    have hH : 0 ≤ 1001 / rate - 1 ∧ 1001 / rate - 1 ≤ 1000 := by
      have h1 : 1 ≤ 1001 / rate := Int.le_ediv_of_mul_le (by omega) (by omega)
      have h2 : 1001 / rate ≤ 1001 := Int.ediv_le_self _ (by decide)
      omega
    unfold B_f_law_longest
    (with_reducible (refine wp_sSeq ?_; refine wp_sSet ?_; refine wp_eUn ?_; refine wp_eC ?_; refine o_neg ?_; refine st_s ?_; refine st_s ?_; refine st_s ?_; refine st_s ?_; refine st_s ?_; refine st_s ?_; refine st_s ?_; refine st_s ?_; refine st_0 ?_; refine sq_nx ?_; refine wp_sSeq ?_; refine wp_sSet ?_; refine wp_eBin ?_; refine wp_eBin ?_; refine wp_eC ?_; refine wp_eV ?_; refine gv_s ?_; refine gv_s ?_; refine gv_s ?_; refine gv_s ?_; refine gv_s ?_; refine gv_0 ?_; refine nu_int ?_; refine fz_int ?_; refine st_s ?_; refine st_s ?_; refine st_s ?_; refine st_s ?_; refine st_s ?_; refine st_0 ?_; refine o_div (by omega) ?_; refine wp_eC ?_; refine o_sub ?_; refine st_s ?_; refine st_s ?_; refine st_s ?_; refine st_s ?_; refine st_s ?_; refine st_s ?_; refine st_s ?_; refine st_s ?_; refine st_s ?_; refine st_0 ?_; refine sq_nx ?_))
    generalize hHd : 1001 / rate - 1 = H at hH ⊢
    (with_reducible (refine wp_sSeq ?_; refine wp_sFor ?_; refine wp_iRg1 ?_; refine wp_aCons ?_; refine wp_eC ?_; refine wp_aNil ?_; refine o_rng1 (by omega) ?_))
    refine wp_loop (fun i e => ∃ (x y : Int) (d9 d10 : D), (y - x) * 2 ^ i ≤ 1001 ∧ Mid (fun t => ls (isRe w s) w r a g (rate * (t + 1) - 1) j) N (-1) H x y ∧ e = [.int w, .int r, .int g, .str a, .str s, .int rate, .int j, .int N, .int x, .int y, d9, d10]) _ ?_ ?_ ⟨-1, H, _, _, by rw [Int.pow_zero]; omega, ⟨by omega, by omega, by omega, fun z => absurd z (by omega), fun z => absurd z (by omega)⟩, rfl⟩
    · rintro i d env hd ⟨x, y, d9, d10, h1, h2, rfl⟩
      obtain ⟨rfl, hlt⟩ := rng_at hd
      have p0 := h2.flo; have p1 := h2.fhi
      (with_reducible (refine wp_gN ?_; refine st_s ?_; refine st_s ?_; refine st_s ?_; refine st_s ?_; refine st_s ?_; refine st_s ?_; refine st_s ?_; refine st_s ?_; refine st_s ?_; refine st_s ?_; refine st_0 ?_; refine wp_sIf ?_; refine wp_qB ?_; refine wp_eBin ?_; refine wp_eV ?_; refine gv_s ?_; refine gv_s ?_; refine gv_s ?_; refine gv_s ?_; refine gv_s ?_; refine gv_s ?_; refine gv_s ?_; refine gv_s ?_; refine gv_0 ?_; refine nu_int ?_; refine fz_int ?_; refine st_s ?_; refine st_s ?_; refine st_s ?_; refine st_s ?_; refine st_s ?_; refine st_s ?_; refine st_s ?_; refine st_s ?_; refine st_0 ?_; refine wp_eV ?_; refine gv_s ?_; refine gv_s ?_; refine gv_s ?_; refine gv_s ?_; refine gv_s ?_; refine gv_s ?_; refine gv_s ?_; refine gv_s ?_; refine gv_s ?_; refine gv_0 ?_; refine nu_int ?_; refine fz_int ?_; refine st_s ?_; refine st_s ?_; refine st_s ?_; refine st_s ?_; refine st_s ?_; refine st_s ?_; refine st_s ?_; refine st_s ?_; refine st_s ?_; refine st_0 ?_; refine o_lt ?_; refine o_toB ?_))
      (focus (refine br_d (fun hc => ?_) (fun hc => ?_); rotate_left; (with_reducible (refine wp_sNx ?_; dsimp only)); rotate_left; (with_reducible (refine wp_sSeq ?_; refine wp_sSet ?_; refine wp_eBin ?_; refine wp_eBin ?_; refine wp_eBin ?_; refine wp_eV ?_; refine gv_s ?_; refine gv_s ?_; refine gv_s ?_; refine gv_s ?_; refine gv_s ?_; refine gv_s ?_; refine gv_s ?_; refine gv_s ?_; refine gv_0 ?_; refine nu_int ?_; refine fz_int ?_; refine st_s ?_; refine st_s ?_; refine st_s ?_; refine st_s ?_; refine st_s ?_; refine st_s ?_; refine st_s ?_; refine st_s ?_; refine st_0 ?_; refine wp_eV ?_; refine gv_s ?_; refine gv_s ?_; refine gv_s ?_; refine gv_s ?_; refine gv_s ?_; refine gv_s ?_; refine gv_s ?_; refine gv_s ?_; refine gv_s ?_; refine gv_0 ?_; refine nu_int ?_; refine fz_int ?_; refine st_s ?_; refine st_s ?_; refine st_s ?_; refine st_s ?_; refine st_s ?_; refine st_s ?_; refine st_s ?_; refine st_s ?_; refine st_s ?_; refine st_0 ?_; refine o_add ?_; refine wp_eC ?_; refine o_add ?_; refine wp_eC ?_; refine o_div (by omega) ?_; refine st_s ?_; refine st_s ?_; refine st_s ?_; refine st_s ?_; refine st_s ?_; refine st_s ?_; refine st_s ?_; refine st_s ?_; refine st_s ?_; refine st_s ?_; refine st_s ?_; refine st_0 ?_; refine sq_nx ?_; refine wp_sIf ?_; refine wp_qB ?_; refine wp_eBin ?_; refine wp_eCall ?_; refine wp_aCons ?_; refine wp_eV ?_; refine gv_0 ?_; refine nu_int ?_; refine fz_int ?_; refine st_0 ?_; refine wp_aCons ?_; refine wp_eV ?_; refine gv_s ?_; refine gv_0 ?_; refine nu_int ?_; refine fz_int ?_; refine st_s ?_; refine st_0 ?_; refine wp_aCons ?_; refine wp_eV ?_; refine gv_s ?_; refine gv_s ?_; refine gv_0 ?_; refine nu_int ?_; refine fz_int ?_; refine st_s ?_; refine st_s ?_; refine st_0 ?_; refine wp_aCons ?_; refine wp_eV ?_; refine gv_s ?_; refine gv_s ?_; refine gv_s ?_; refine gv_0 ?_; refine nu_str ?_; refine fz_str ?_; refine st_s ?_; refine st_s ?_; refine st_s ?_; refine st_0 ?_; refine wp_aCons ?_; refine wp_eV ?_; refine gv_s ?_; refine gv_s ?_; refine gv_s ?_; refine gv_s ?_; refine gv_0 ?_; refine nu_str ?_; refine fz_str ?_; refine st_s ?_; refine st_s ?_; refine st_s ?_; refine st_s ?_; refine st_0 ?_; refine wp_aCons ?_; refine wp_eBin ?_; refine wp_eBin ?_; refine wp_eV ?_; refine gv_s ?_; refine gv_s ?_; refine gv_s ?_; refine gv_s ?_; refine gv_s ?_; refine gv_0 ?_; refine nu_int ?_; refine fz_int ?_; refine st_s ?_; refine st_s ?_; refine st_s ?_; refine st_s ?_; refine st_s ?_; refine st_0 ?_; refine wp_eBin ?_; refine wp_eV ?_; refine gv_s ?_; refine gv_s ?_; refine gv_s ?_; refine gv_s ?_; refine gv_s ?_; refine gv_s ?_; refine gv_s ?_; refine gv_s ?_; refine gv_s ?_; refine gv_s ?_; refine gv_s ?_; refine gv_0 ?_; refine nu_int ?_; refine fz_int ?_; refine st_s ?_; refine st_s ?_; refine st_s ?_; refine st_s ?_; refine st_s ?_; refine st_s ?_; refine st_s ?_; refine st_s ?_; refine st_s ?_; refine st_s ?_; refine st_s ?_; refine st_0 ?_; refine wp_eC ?_; refine o_add ?_; refine o_mul (by omega) ?_; refine wp_eC ?_; refine o_sub ?_; refine wp_aCons ?_; refine wp_eV ?_; refine gv_s ?_; refine gv_s ?_; refine gv_s ?_; refine gv_s ?_; refine gv_s ?_; refine gv_s ?_; refine gv_0 ?_; refine nu_int ?_; refine fz_int ?_; refine st_s ?_; refine st_s ?_; refine st_s ?_; refine st_s ?_; refine st_s ?_; refine st_s ?_; refine st_0 ?_; refine wp_aNil ?_))))
      · have q := least_law (w := w) (k := rate * ((x + y + 1) / 2 + 1) - 1) hw hr hg hs ⟨by have := rate_ge hra.1 (show (0 : Int) ≤ (x + y + 1) / 2 by omega); omega, by have := rate_le (t := (x + y + 1) / 2) hra.1 (by omega); omega⟩ hj
        (with_reducible (refine fF_of (by assumption) ?_; refine pbc_n ?_; refine pbc_n ?_; refine pbc_n ?_; refine pbc_n ?_; refine pbc_n ?_; refine pbc_n ?_; refine pbc_n ?_; refine pbc_0 ?_; refine wp_eV ?_; refine gv_s ?_; refine gv_s ?_; refine gv_s ?_; refine gv_s ?_; refine gv_s ?_; refine gv_s ?_; refine gv_s ?_; refine gv_0 ?_; refine nu_int ?_; refine fz_int ?_; refine st_s ?_; refine st_s ?_; refine st_s ?_; refine st_s ?_; refine st_s ?_; refine st_s ?_; refine st_s ?_; refine st_0 ?_; refine o_le ?_; refine o_toB ?_))
        have hp : (2 : Int) ^ (i + 1) = 2 ^ i * 2 := Int.pow_succ 2 i
        have hp0 : (0 : Int) < 2 ^ i := Int.pow_pos (by decide)
        (focus (refine br_d (fun hf => ?_) (fun hf => ?_); rotate_left; (with_reducible (refine wp_sSet ?_; refine wp_eBin ?_; refine wp_eV ?_; refine gv_s ?_; refine gv_s ?_; refine gv_s ?_; refine gv_s ?_; refine gv_s ?_; refine gv_s ?_; refine gv_s ?_; refine gv_s ?_; refine gv_s ?_; refine gv_s ?_; refine gv_s ?_; refine gv_0 ?_; refine nu_int ?_; refine fz_int ?_; refine st_s ?_; refine st_s ?_; refine st_s ?_; refine st_s ?_; refine st_s ?_; refine st_s ?_; refine st_s ?_; refine st_s ?_; refine st_s ?_; refine st_s ?_; refine st_s ?_; refine st_0 ?_; refine wp_eC ?_; refine o_sub ?_; refine st_s ?_; refine st_s ?_; refine st_s ?_; refine st_s ?_; refine st_s ?_; refine st_s ?_; refine st_s ?_; refine st_s ?_; refine st_s ?_; refine st_0 ?_; dsimp only)); rotate_left; (with_reducible (refine wp_sSet ?_; refine wp_eV ?_; refine gv_s ?_; refine gv_s ?_; refine gv_s ?_; refine gv_s ?_; refine gv_s ?_; refine gv_s ?_; refine gv_s ?_; refine gv_s ?_; refine gv_s ?_; refine gv_s ?_; refine gv_s ?_; refine gv_0 ?_; refine nu_int ?_; refine fz_int ?_; refine st_s ?_; refine st_s ?_; refine st_s ?_; refine st_s ?_; refine st_s ?_; refine st_s ?_; refine st_s ?_; refine st_s ?_; refine st_s ?_; refine st_s ?_; refine st_s ?_; refine st_0 ?_; refine st_s ?_; refine st_s ?_; refine st_s ?_; refine st_s ?_; refine st_s ?_; refine st_s ?_; refine st_s ?_; refine st_s ?_; refine st_0 ?_; dsimp only))))
        · refine ⟨_, _, _, _, ?_, h2.up hc hf, rfl⟩
          rw [hp, ← Int.mul_assoc]
          have : (y - (x + y + 1) / 2) * 2 ≤ y - x := by omega
          have := Int.mul_le_mul_of_nonneg_right this (Int.le_of_lt hp0)
          rw [Int.mul_assoc, Int.mul_comm 2, ← Int.mul_assoc] at this
          omega
        · refine ⟨_, _, _, _, ?_, h2.down hc hf, rfl⟩
          rw [hp, ← Int.mul_assoc]
          have : ((x + y + 1) / 2 - 1 - x) * 2 ≤ y - x := by omega
          have := Int.mul_le_mul_of_nonneg_right this (Int.le_of_lt hp0)
          rw [Int.mul_assoc, Int.mul_comm 2, ← Int.mul_assoc] at this
          omega
      · refine ⟨_, _, _, _, ?_, h2, rfl⟩
        have : y - x = 0 := by have := h2.le; omega
        rw [this, Int.zero_mul]; decide
    · rintro env ⟨x, y, d9, d10, h1, h2, rfl⟩
      (with_reducible (refine sq_nx ?_; refine wp_sRt ?_; refine wp_eTk ?_; refine gv_s ?_; refine gv_s ?_; refine gv_s ?_; refine gv_s ?_; refine gv_s ?_; refine gv_s ?_; refine gv_s ?_; refine gv_s ?_; refine gv_0 ?_; refine nu_int ?_; refine st_s ?_; refine st_s ?_; refine st_s ?_; refine st_s ?_; refine st_s ?_; refine st_s ?_; refine st_s ?_; refine st_s ?_; refine st_0 ?_; refine endP_rt (by with_unfolding_all rfl) ?_))
      refine ⟨_, rfl, rfl, h2.spec ?_⟩
      rw [rng_len] at h1
      have : (2 : Int) ^ ((12 : Int) - 0).toNat = 4096 := by decide
      rw [this] at h1
      omega)
  exact ⟨v, h, hh⟩
theorem check_ok {N : Int} (hN : 1 ≤ N ∧ N ≤ 2000000) : F_f_check_numbers [.int N] = .ok .non [] := by
  refine def_ok (env := [.int N]) rfl ?_
  unfold B_f_check_numbers
  (with_reducible (refine wp_sIf ?_; refine wp_qNot ?_; refine wp_qB ?_; refine wp_eChain ?_; refine wp_eC ?_; refine wp_eV ?_; refine gv_0 ?_; refine nu_int ?_; refine fz_int ?_; refine st_0 ?_; refine o_le ?_; refine o_toB ?_; refine br_dT (by omega) ?_; refine wp_eC ?_; refine o_svI ?_; refine o_le ?_; refine o_toB ?_; refine br_n ?_; refine br_dT (by omega) ?_; refine wp_sNx ?_; exact endF_nx (by with_unfolding_all rfl) (by with_unfolding_all rfl)))
theorem RD_eq {w r g : Int} {a s : Str} : freeze (.oins 0 [.int w, .int r, .str a, .str s, .int g]) = RD w r a s g := rfl
theorem least_okO {w r g k j : Int} {a s : Str} (hs : four s) (hj : 0 ≤ j ∧ j ≤ 1000) : F_f_least_by_formula [.oins 0 [.int w, .int r, .str a, .str s, .int g], .ins 1 [.int k, .int j]] = .ok (.int (ls (isRe w s) w r a g k j)) [] := by
  refine def_ok (env := [.oins 0 [.int w, .int r, .str a, .str s, .int g], .ins 1 [.int k, .int j]]) rfl ?_
  unfold B_f_least_by_formula
  (with_reducible (refine wp_sRt ?_; refine wp_eB ?_; refine wp_aCons ?_; refine wp_eBin ?_; refine wp_eBin ?_; refine wp_eCall ?_; refine wp_aCons ?_; refine wp_eV ?_; refine gv_0 ?_; refine nu_oins ?_; refine fz_oins ?_; refine st_0 ?_; refine wp_aNil ?_; simp only [freezeL, freeze]))
  refine fF_of (reach_ok hs) ?_
  (with_reducible (refine pbc_n ?_; refine pbc_0 ?_; refine wp_eAtW ?_; refine gv_0 ?_; refine nu_ins ?_; refine o_at (by with_unfolding_all rfl) ?_; refine br_isO (by with_unfolding_all rfl) ?_; refine o_add ?_; refine wp_eAtW ?_; refine gv_s ?_; refine gv_0 ?_; refine nu_ins ?_; refine o_at (by with_unfolding_all rfl) ?_; refine br_isO (by with_unfolding_all rfl) ?_; refine o_add ?_; refine wp_aCons ?_; refine wp_eBin ?_; refine wp_eBin ?_; refine wp_eAtW ?_; refine gv_0 ?_; refine nu_ins ?_; refine o_at (by with_unfolding_all rfl) ?_; refine br_isO (by with_unfolding_all rfl) ?_; refine wp_eC ?_; refine o_add ?_; refine wp_eCall ?_; refine wp_aCons ?_; refine wp_eV ?_; refine gv_0 ?_; refine nu_ins ?_; refine fz_ins ?_; refine st_0 ?_; refine wp_aCons ?_; refine wp_eV ?_; refine gv_s ?_; refine gv_0 ?_; refine nu_ins ?_; refine fz_ins ?_; refine st_s ?_; refine st_0 ?_; refine wp_aNil ?_))
  refine fF_of (growth_ok hs hj) ?_
  (with_reducible (refine pbc_n ?_; refine pbc_n ?_; refine pbc_0 ?_; refine o_add ?_; refine wp_aNil ?_; refine o_maxB ?_; refine pbk_n ?_; refine pbk_n ?_; refine pbk_0 ?_; refine endF_rt (by with_unfolding_all rfl) (by with_unfolding_all rfl) ?_))
  rfl
theorem least_okC {w r g k j : Int} {a s : Str} (hs : four s) (hj : 0 ≤ j ∧ j ≤ 1000) : F_f_least_by_formula [RD w r a s g, .oins 1 [.int k, .int j]] = .ok (.int (ls (isRe w s) w r a g k j)) [] := by
  refine def_ok (env := [.ins 0 [.int w, .int r, .str a, .str s, .int g], .oins 1 [.int k, .int j]]) rfl ?_
  unfold B_f_least_by_formula
  (with_reducible (refine wp_sRt ?_; refine wp_eB ?_; refine wp_aCons ?_; refine wp_eBin ?_; refine wp_eBin ?_; refine wp_eCall ?_; refine wp_aCons ?_; refine wp_eV ?_; refine gv_0 ?_; refine nu_ins ?_; refine fz_ins ?_; refine st_0 ?_; refine wp_aNil ?_))
  refine fF_of (reach_ok hs) ?_
  (with_reducible (refine pbc_n ?_; refine pbc_0 ?_; refine wp_eAtW ?_; refine gv_0 ?_; refine nu_ins ?_; refine o_at (by with_unfolding_all rfl) ?_; refine br_isO (by with_unfolding_all rfl) ?_; refine o_add ?_; refine wp_eAtW ?_; refine gv_s ?_; refine gv_0 ?_; refine nu_oins ?_; refine o_at (by with_unfolding_all rfl) ?_; refine br_isO (by with_unfolding_all rfl) ?_; refine o_add ?_; refine wp_aCons ?_; refine wp_eBin ?_; refine wp_eBin ?_; refine wp_eAtW ?_; refine gv_0 ?_; refine nu_ins ?_; refine o_at (by with_unfolding_all rfl) ?_; refine br_isO (by with_unfolding_all rfl) ?_; refine wp_eC ?_; refine o_add ?_; refine wp_eCall ?_; refine wp_aCons ?_; refine wp_eV ?_; refine gv_0 ?_; refine nu_ins ?_; refine fz_ins ?_; refine st_0 ?_; refine wp_aCons ?_; refine wp_eV ?_; refine gv_s ?_; refine gv_0 ?_; refine nu_oins ?_; refine fz_oins ?_; refine st_s ?_; refine st_0 ?_; refine wp_aNil ?_; simp only [freezeL, freeze]))
  refine fF_of (growth_ok hs hj) ?_
  (with_reducible (refine pbc_n ?_; refine pbc_n ?_; refine pbc_0 ?_; refine o_add ?_; refine wp_aNil ?_; refine o_maxB ?_; refine pbk_n ?_; refine pbk_n ?_; refine pbk_0 ?_; refine endF_rt (by with_unfolding_all rfl) (by with_unfolding_all rfl) ?_))
  rfl
theorem largest_ok {r g k j N : Int} {a s : Str} (hr : 1 ≤ r ∧ r ≤ 1000) (hg : grp a g) (hs : four s) (hk : 0 ≤ k ∧ k ≤ 1000) (hj : 0 ≤ j ∧ j ≤ 1000) (hN : 1 ≤ N ∧ N ≤ 2000000) :
    ∃ x : Int, F_f_largest_window [CD k j, .int N, .int r, .str a, .str s] = .ok (.int x) [] ∧ Spec (fun m => ls (isRe m s) m r a g k j) N 0 1000 x := by
  obtain ⟨r_, ps, h, v, rfl, rfl, hh⟩ := def_ex (b := B_f_largest_window) (nl := 4) (mk := [false, false, false, false, false]) (ds := [CD k j, .int N, .int r, .str a, .str s]) (env := [.ins 1 [.int k, .int j], .int N, .int r, .str a, .str s, .un, .un, .un, .un]) (fun r_ ps => ∃ v : Int, r_ = .int v ∧ ps = [] ∧ Spec (fun m => ls (isRe m s) m r a g k j) N 0 1000 v) rfl (by
    unfold B_f_largest_window
    (with_reducible (refine wp_sSeq ?_; refine wp_sEx ?_; refine wp_eCall ?_; refine wp_aCons ?_; refine wp_eV ?_; refine gv_s ?_; refine gv_0 ?_; refine nu_int ?_; refine fz_int ?_; refine st_s ?_; refine st_0 ?_; refine wp_aNil ?_))
    refine fF_of (check_ok hN) ?_
    (with_reducible (refine pbc_n ?_; refine pbc_0 ?_; refine sq_nx ?_; refine wp_sSeq ?_; refine wp_sSet ?_; refine wp_eC ?_; refine st_s ?_; refine st_s ?_; refine st_s ?_; refine st_s ?_; refine st_s ?_; refine st_0 ?_; refine sq_nx ?_; refine wp_sSeq ?_; refine wp_sSet ?_; refine wp_eC ?_; refine st_s ?_; refine st_s ?_; refine st_s ?_; refine st_s ?_; refine st_s ?_; refine st_s ?_; refine st_0 ?_; refine sq_nx ?_; refine wp_sSeq ?_; refine wp_sSet ?_; refine wp_eMk ?_; refine wp_aCons ?_; refine wp_eC ?_; refine wp_aCons ?_; refine wp_eV ?_; refine gv_s ?_; refine gv_s ?_; refine gv_0 ?_; refine nu_int ?_; refine fz_int ?_; refine st_s ?_; refine st_s ?_; refine st_0 ?_; refine wp_aCons ?_; refine wp_eV ?_; refine gv_s ?_; refine gv_s ?_; refine gv_s ?_; refine gv_0 ?_; refine nu_str ?_; refine fz_str ?_; refine st_s ?_; refine st_s ?_; refine st_s ?_; refine st_0 ?_; refine wp_aCons ?_; refine wp_eV ?_; refine gv_s ?_; refine gv_s ?_; refine gv_s ?_; refine gv_s ?_; refine gv_0 ?_; refine nu_str ?_; refine fz_str ?_; refine st_s ?_; refine st_s ?_; refine st_s ?_; refine st_s ?_; refine st_0 ?_; refine wp_aNil ?_))
    refine fF_of (rule_ok (by omega) hr hg hs) ?_
    (with_reducible (refine mkP_ok ?_; refine pbc_n ?_; refine pbc_n ?_; refine pbc_n ?_; refine pbc_n ?_; refine pbc_0 ?_; refine st_s ?_; refine st_s ?_; refine st_s ?_; refine st_s ?_; refine st_s ?_; refine st_s ?_; refine st_s ?_; refine st_0 ?_; refine sq_nx ?_))
    (with_reducible (refine wp_sSeq ?_))
    refine wp_while (fun e => ∃ (x y : Int) (d7 d8 : D), (d7 = .oins 0 [.int 1, .int r, .str a, .str s, .int g] ∨ d7 = .ins 0 [.int 1, .int r, .str a, .str s, .int g]) ∧ Mid (fun m => ls (isRe m s) m r a g k j) N 0 1000 x y ∧ e = [.ins 1 [.int k, .int j], .int N, .int r, .str a, .str s, .int x, .int y, d7, d8]) (fun e => match e with | [_, _, _, _, _, .int x, .int y, _, _] => (y - x).toNat | _ => 0) ?_ _ ⟨_, _, _, _, .inl rfl, ⟨by decide, by decide, by decide, fun z => absurd z (by decide), fun z => absurd z (by decide)⟩, rfl⟩ (by show ((1000 : Int) - 0).toNat < 100000; decide)
    rintro env ⟨x, y, d7, d8, rfl | rfl, h2, rfl⟩
    · have p0 := h2.flo; have p1 := h2.fhi
      (with_reducible (refine wp_qB ?_; refine wp_eBin ?_; refine wp_eV ?_; refine gv_s ?_; refine gv_s ?_; refine gv_s ?_; refine gv_s ?_; refine gv_s ?_; refine gv_0 ?_; refine nu_int ?_; refine fz_int ?_; refine st_s ?_; refine st_s ?_; refine st_s ?_; refine st_s ?_; refine st_s ?_; refine st_0 ?_; refine wp_eV ?_; refine gv_s ?_; refine gv_s ?_; refine gv_s ?_; refine gv_s ?_; refine gv_s ?_; refine gv_s ?_; refine gv_0 ?_; refine nu_int ?_; refine fz_int ?_; refine st_s ?_; refine st_s ?_; refine st_s ?_; refine st_s ?_; refine st_s ?_; refine st_s ?_; refine st_0 ?_; refine o_lt ?_; refine o_toB ?_))
      (focus (refine br_d (fun hc => ?_) (fun hc => ?_); rotate_left; (with_reducible (refine sq_nx ?_; refine wp_sRt ?_; refine wp_eTk ?_; refine gv_s ?_; refine gv_s ?_; refine gv_s ?_; refine gv_s ?_; refine gv_s ?_; refine gv_0 ?_; refine nu_int ?_; refine st_s ?_; refine st_s ?_; refine st_s ?_; refine st_s ?_; refine st_s ?_; refine st_0 ?_; refine endP_rt (by with_unfolding_all rfl) ?_)); rotate_left; (with_reducible (refine wp_sSeq ?_; refine wp_sSet ?_; refine wp_eBin ?_; refine wp_eBin ?_; refine wp_eBin ?_; refine wp_eV ?_; refine gv_s ?_; refine gv_s ?_; refine gv_s ?_; refine gv_s ?_; refine gv_s ?_; refine gv_0 ?_; refine nu_int ?_; refine fz_int ?_; refine st_s ?_; refine st_s ?_; refine st_s ?_; refine st_s ?_; refine st_s ?_; refine st_0 ?_; refine wp_eV ?_; refine gv_s ?_; refine gv_s ?_; refine gv_s ?_; refine gv_s ?_; refine gv_s ?_; refine gv_s ?_; refine gv_0 ?_; refine nu_int ?_; refine fz_int ?_; refine st_s ?_; refine st_s ?_; refine st_s ?_; refine st_s ?_; refine st_s ?_; refine st_s ?_; refine st_0 ?_; refine o_add ?_; refine wp_eC ?_; refine o_add ?_; refine wp_eC ?_; refine o_div (by omega) ?_; refine st_s ?_; refine st_s ?_; refine st_s ?_; refine st_s ?_; refine st_s ?_; refine st_s ?_; refine st_s ?_; refine st_s ?_; refine st_0 ?_; refine sq_nx ?_; refine wp_sIf ?_; refine wp_qB ?_; refine wp_eBin ?_; refine wp_eCall ?_; refine wp_aCons ?_; refine wp_eMk ?_; refine wp_aCons ?_; refine wp_eV ?_; refine gv_s ?_; refine gv_s ?_; refine gv_s ?_; refine gv_s ?_; refine gv_s ?_; refine gv_s ?_; refine gv_s ?_; refine gv_s ?_; refine gv_0 ?_; refine nu_int ?_; refine fz_int ?_; refine st_s ?_; refine st_s ?_; refine st_s ?_; refine st_s ?_; refine st_s ?_; refine st_s ?_; refine st_s ?_; refine st_s ?_; refine st_0 ?_; refine wp_aCons ?_; refine wp_eAtW ?_; refine gv_s ?_; refine gv_s ?_; refine gv_s ?_; refine gv_s ?_; refine gv_s ?_; refine gv_s ?_; refine gv_s ?_; refine gv_0 ?_; refine nu_oins ?_; refine o_at (by with_unfolding_all rfl) ?_; refine br_isO (by with_unfolding_all rfl) ?_; refine wp_aCons ?_; refine wp_eV ?_; refine gv_s ?_; refine gv_s ?_; refine gv_s ?_; refine gv_0 ?_; refine nu_str ?_; refine fz_str ?_; refine st_s ?_; refine st_s ?_; refine st_s ?_; refine st_0 ?_; refine wp_aCons ?_; refine wp_eV ?_; refine gv_s ?_; refine gv_s ?_; refine gv_s ?_; refine gv_s ?_; refine gv_0 ?_; refine nu_str ?_; refine fz_str ?_; refine st_s ?_; refine st_s ?_; refine st_s ?_; refine st_s ?_; refine st_0 ?_; refine wp_aNil ?_))))
      · refine fF_of (rule_ok (by omega) hr hg hs) ?_
        (with_reducible (refine mkP_ok ?_; refine pbc_n ?_; refine pbc_n ?_; refine pbc_n ?_; refine pbc_n ?_; refine pbc_0 ?_; refine wp_aCons ?_; refine wp_eV ?_; refine gv_0 ?_; refine nu_ins ?_; refine fz_ins ?_; refine st_0 ?_; refine wp_aNil ?_))
        refine fF_of (least_okO hs hj) ?_
        (with_reducible (refine pbc_n ?_; refine pbc_n ?_; refine pbc_0 ?_; refine wp_eV ?_; refine gv_s ?_; refine gv_0 ?_; refine nu_int ?_; refine fz_int ?_; refine st_s ?_; refine st_0 ?_; refine o_le ?_; refine o_toB ?_))
        (focus (refine br_d (fun hf => ?_) (fun hf => ?_); rotate_left; (with_reducible (refine wp_sSet ?_; refine wp_eBin ?_; refine wp_eV ?_; refine gv_s ?_; refine gv_s ?_; refine gv_s ?_; refine gv_s ?_; refine gv_s ?_; refine gv_s ?_; refine gv_s ?_; refine gv_s ?_; refine gv_0 ?_; refine nu_int ?_; refine fz_int ?_; refine st_s ?_; refine st_s ?_; refine st_s ?_; refine st_s ?_; refine st_s ?_; refine st_s ?_; refine st_s ?_; refine st_s ?_; refine st_0 ?_; refine wp_eC ?_; refine o_sub ?_; refine st_s ?_; refine st_s ?_; refine st_s ?_; refine st_s ?_; refine st_s ?_; refine st_s ?_; refine st_0 ?_; refine wh_nx ?_)); rotate_left; (with_reducible (refine wp_sSet ?_; refine wp_eV ?_; refine gv_s ?_; refine gv_s ?_; refine gv_s ?_; refine gv_s ?_; refine gv_s ?_; refine gv_s ?_; refine gv_s ?_; refine gv_s ?_; refine gv_0 ?_; refine nu_int ?_; refine fz_int ?_; refine st_s ?_; refine st_s ?_; refine st_s ?_; refine st_s ?_; refine st_s ?_; refine st_s ?_; refine st_s ?_; refine st_s ?_; refine st_0 ?_; refine st_s ?_; refine st_s ?_; refine st_s ?_; refine st_s ?_; refine st_s ?_; refine st_0 ?_; refine wh_nx ?_))))
        · exact ⟨⟨_, _, _, _, .inl rfl, h2.up hc hf, rfl⟩, by show (y - (x + y + 1) / 2).toNat < (y - x).toNat; omega⟩
        · exact ⟨⟨_, _, _, _, .inl rfl, h2.down hc hf, rfl⟩, by show ((x + y + 1) / 2 - 1 - x).toNat < (y - x).toNat; omega⟩
      · exact ⟨_, rfl, rfl, h2.spec hc⟩
    · have p0 := h2.flo; have p1 := h2.fhi
      (with_reducible (refine wp_qB ?_; refine wp_eBin ?_; refine wp_eV ?_; refine gv_s ?_; refine gv_s ?_; refine gv_s ?_; refine gv_s ?_; refine gv_s ?_; refine gv_0 ?_; refine nu_int ?_; refine fz_int ?_; refine st_s ?_; refine st_s ?_; refine st_s ?_; refine st_s ?_; refine st_s ?_; refine st_0 ?_; refine wp_eV ?_; refine gv_s ?_; refine gv_s ?_; refine gv_s ?_; refine gv_s ?_; refine gv_s ?_; refine gv_s ?_; refine gv_0 ?_; refine nu_int ?_; refine fz_int ?_; refine st_s ?_; refine st_s ?_; refine st_s ?_; refine st_s ?_; refine st_s ?_; refine st_s ?_; refine st_0 ?_; refine o_lt ?_; refine o_toB ?_))
      (focus (refine br_d (fun hc => ?_) (fun hc => ?_); rotate_left; (with_reducible (refine sq_nx ?_; refine wp_sRt ?_; refine wp_eTk ?_; refine gv_s ?_; refine gv_s ?_; refine gv_s ?_; refine gv_s ?_; refine gv_s ?_; refine gv_0 ?_; refine nu_int ?_; refine st_s ?_; refine st_s ?_; refine st_s ?_; refine st_s ?_; refine st_s ?_; refine st_0 ?_; refine endP_rt (by with_unfolding_all rfl) ?_)); rotate_left; (with_reducible (refine wp_sSeq ?_; refine wp_sSet ?_; refine wp_eBin ?_; refine wp_eBin ?_; refine wp_eBin ?_; refine wp_eV ?_; refine gv_s ?_; refine gv_s ?_; refine gv_s ?_; refine gv_s ?_; refine gv_s ?_; refine gv_0 ?_; refine nu_int ?_; refine fz_int ?_; refine st_s ?_; refine st_s ?_; refine st_s ?_; refine st_s ?_; refine st_s ?_; refine st_0 ?_; refine wp_eV ?_; refine gv_s ?_; refine gv_s ?_; refine gv_s ?_; refine gv_s ?_; refine gv_s ?_; refine gv_s ?_; refine gv_0 ?_; refine nu_int ?_; refine fz_int ?_; refine st_s ?_; refine st_s ?_; refine st_s ?_; refine st_s ?_; refine st_s ?_; refine st_s ?_; refine st_0 ?_; refine o_add ?_; refine wp_eC ?_; refine o_add ?_; refine wp_eC ?_; refine o_div (by omega) ?_; refine st_s ?_; refine st_s ?_; refine st_s ?_; refine st_s ?_; refine st_s ?_; refine st_s ?_; refine st_s ?_; refine st_s ?_; refine st_0 ?_; refine sq_nx ?_; refine wp_sIf ?_; refine wp_qB ?_; refine wp_eBin ?_; refine wp_eCall ?_; refine wp_aCons ?_; refine wp_eMk ?_; refine wp_aCons ?_; refine wp_eV ?_; refine gv_s ?_; refine gv_s ?_; refine gv_s ?_; refine gv_s ?_; refine gv_s ?_; refine gv_s ?_; refine gv_s ?_; refine gv_s ?_; refine gv_0 ?_; refine nu_int ?_; refine fz_int ?_; refine st_s ?_; refine st_s ?_; refine st_s ?_; refine st_s ?_; refine st_s ?_; refine st_s ?_; refine st_s ?_; refine st_s ?_; refine st_0 ?_; refine wp_aCons ?_; refine wp_eAtW ?_; refine gv_s ?_; refine gv_s ?_; refine gv_s ?_; refine gv_s ?_; refine gv_s ?_; refine gv_s ?_; refine gv_s ?_; refine gv_0 ?_; refine nu_ins ?_; refine o_at (by with_unfolding_all rfl) ?_; refine br_isO (by with_unfolding_all rfl) ?_; refine wp_aCons ?_; refine wp_eV ?_; refine gv_s ?_; refine gv_s ?_; refine gv_s ?_; refine gv_0 ?_; refine nu_str ?_; refine fz_str ?_; refine st_s ?_; refine st_s ?_; refine st_s ?_; refine st_0 ?_; refine wp_aCons ?_; refine wp_eV ?_; refine gv_s ?_; refine gv_s ?_; refine gv_s ?_; refine gv_s ?_; refine gv_0 ?_; refine nu_str ?_; refine fz_str ?_; refine st_s ?_; refine st_s ?_; refine st_s ?_; refine st_s ?_; refine st_0 ?_; refine wp_aNil ?_))))
      · refine fF_of (rule_ok (by omega) hr hg hs) ?_
        (with_reducible (refine mkP_ok ?_; refine pbc_n ?_; refine pbc_n ?_; refine pbc_n ?_; refine pbc_n ?_; refine pbc_0 ?_; refine wp_aCons ?_; refine wp_eV ?_; refine gv_0 ?_; refine nu_ins ?_; refine fz_ins ?_; refine st_0 ?_; refine wp_aNil ?_))
        refine fF_of (least_okO hs hj) ?_
        (with_reducible (refine pbc_n ?_; refine pbc_n ?_; refine pbc_0 ?_; refine wp_eV ?_; refine gv_s ?_; refine gv_0 ?_; refine nu_int ?_; refine fz_int ?_; refine st_s ?_; refine st_0 ?_; refine o_le ?_; refine o_toB ?_))
        (focus (refine br_d (fun hf => ?_) (fun hf => ?_); rotate_left; (with_reducible (refine wp_sSet ?_; refine wp_eBin ?_; refine wp_eV ?_; refine gv_s ?_; refine gv_s ?_; refine gv_s ?_; refine gv_s ?_; refine gv_s ?_; refine gv_s ?_; refine gv_s ?_; refine gv_s ?_; refine gv_0 ?_; refine nu_int ?_; refine fz_int ?_; refine st_s ?_; refine st_s ?_; refine st_s ?_; refine st_s ?_; refine st_s ?_; refine st_s ?_; refine st_s ?_; refine st_s ?_; refine st_0 ?_; refine wp_eC ?_; refine o_sub ?_; refine st_s ?_; refine st_s ?_; refine st_s ?_; refine st_s ?_; refine st_s ?_; refine st_s ?_; refine st_0 ?_; refine wh_nx ?_)); rotate_left; (with_reducible (refine wp_sSet ?_; refine wp_eV ?_; refine gv_s ?_; refine gv_s ?_; refine gv_s ?_; refine gv_s ?_; refine gv_s ?_; refine gv_s ?_; refine gv_s ?_; refine gv_s ?_; refine gv_0 ?_; refine nu_int ?_; refine fz_int ?_; refine st_s ?_; refine st_s ?_; refine st_s ?_; refine st_s ?_; refine st_s ?_; refine st_s ?_; refine st_s ?_; refine st_s ?_; refine st_0 ?_; refine st_s ?_; refine st_s ?_; refine st_s ?_; refine st_s ?_; refine st_s ?_; refine st_0 ?_; refine wh_nx ?_))))
        · exact ⟨⟨_, _, _, _, .inr rfl, h2.up hc hf, rfl⟩, by show (y - (x + y + 1) / 2).toNat < (y - x).toNat; omega⟩
        · exact ⟨⟨_, _, _, _, .inr rfl, h2.down hc hf, rfl⟩, by show ((x + y + 1) / 2 - 1 - x).toNat < (y - x).toNat; omega⟩
      · exact ⟨_, rfl, rfl, h2.spec hc⟩)
  exact ⟨v, h, hh⟩
theorem lag_ok {t rate : Int} (ht : 0 ≤ t ∧ t ≤ 1000) (hr : 1 ≤ rate ∧ rate ≤ 1000) : F_f_lag [LD t rate] = .ok (.int (rate * (t + 1) - 1)) [] := by
  refine def_ok (env := [.ins 2 [.int t, .int rate]]) rfl ?_
  unfold B_f_lag
  (with_reducible (refine wp_sRt ?_; refine wp_eBin ?_; refine wp_eBin ?_; refine wp_eAtW ?_; refine gv_0 ?_; refine nu_ins ?_; refine o_at (by with_unfolding_all rfl) ?_; refine br_isO (by with_unfolding_all rfl) ?_; refine wp_eBin ?_; refine wp_eAtW ?_; refine gv_0 ?_; refine nu_ins ?_; refine o_at (by with_unfolding_all rfl) ?_; refine br_isO (by with_unfolding_all rfl) ?_; refine wp_eC ?_; refine o_add ?_; refine o_mul (by omega) ?_; refine wp_eC ?_; refine o_sub ?_; refine endF_rt (by with_unfolding_all rfl) (by with_unfolding_all rfl) ?_))
  rfl
theorem lchan_ok {t rate j : Int} (ht : 0 ≤ t ∧ t ≤ 1000) (hr : 1 ≤ rate ∧ rate ≤ 1000) (hk : 0 ≤ rate * (t + 1) - 1 ∧ rate * (t + 1) - 1 ≤ 1000) (hj : 0 ≤ j ∧ j ≤ 1000) : F_f_lifetime_channel [LD t rate, .int j] = .ok (.oins 1 [.int (rate * (t + 1) - 1), .int j]) [] := by
  refine def_ok (env := [.ins 2 [.int t, .int rate], .int j]) rfl ?_
  unfold B_f_lifetime_channel
  (with_reducible (refine wp_sRt ?_; refine wp_eMk ?_; refine wp_aCons ?_; refine wp_eCall ?_; refine wp_aCons ?_; refine wp_eV ?_; refine gv_0 ?_; refine nu_ins ?_; refine fz_ins ?_; refine st_0 ?_; refine wp_aNil ?_))
  refine fF_of (lag_ok ht hr) ?_
  (with_reducible (refine pbc_n ?_; refine pbc_0 ?_; refine wp_aCons ?_; refine wp_eV ?_; refine gv_s ?_; refine gv_0 ?_; refine nu_int ?_; refine fz_int ?_; refine st_s ?_; refine st_0 ?_; refine wp_aNil ?_))
  refine fF_of (chan_ok hk hj) ?_
  (with_reducible (refine mkP_ok ?_; refine pbc_n ?_; refine pbc_n ?_; refine pbc_0 ?_; refine endF_rt (by with_unfolding_all rfl) (by with_unfolding_all rfl) ?_))
  rfl
/-- the rule may be owned or shared, the lifetime too -/
theorem forlife_ok {w r g t rate j : Int} {a s : Str} {d : D} (hs : four s) (ht : 0 ≤ t ∧ t ≤ 1000) (hr : 1 ≤ rate ∧ rate ≤ 1000) (hk : 0 ≤ rate * (t + 1) - 1 ∧ rate * (t + 1) - 1 ≤ 1000) (hj : 0 ≤ j ∧ j ≤ 1000) (hd : d = LD t rate ∨ d = .oins 2 [.int t, .int rate]) : F_f_least_for_lifetime [RD w r a s g, d, .int j] = .ok (.int (ls (isRe w s) w r a g (rate * (t + 1) - 1) j)) [] := by
  rcases hd with rfl | rfl
  · refine def_ok (env := [.ins 0 [.int w, .int r, .str a, .str s, .int g], .ins 2 [.int t, .int rate], .int j]) rfl ?_
    unfold B_f_least_for_lifetime
    (with_reducible (refine wp_sRt ?_; refine wp_eCall ?_; refine wp_aCons ?_; refine wp_eV ?_; refine gv_0 ?_; refine nu_ins ?_; refine fz_ins ?_; refine st_0 ?_; refine wp_aCons ?_; refine wp_eCall ?_; refine wp_aCons ?_; refine wp_eV ?_; refine gv_s ?_; refine gv_0 ?_; refine nu_ins ?_; refine fz_ins ?_; refine st_s ?_; refine st_0 ?_; refine wp_aCons ?_; refine wp_eV ?_; refine gv_s ?_; refine gv_s ?_; refine gv_0 ?_; refine nu_int ?_; refine fz_int ?_; refine st_s ?_; refine st_s ?_; refine st_0 ?_; refine wp_aNil ?_))
    refine fF_of (lchan_ok ht hr hk hj) ?_
    (with_reducible (refine pbc_n ?_; refine pbc_n ?_; refine pbc_0 ?_; refine wp_aNil ?_))
    refine fF_of (least_okC hs hj) ?_
    (with_reducible (refine pbc_n ?_; refine pbc_n ?_; refine pbc_0 ?_; refine endF_rt (by with_unfolding_all rfl) (by with_unfolding_all rfl) ?_))
    rfl
  · refine def_ok (env := [.ins 0 [.int w, .int r, .str a, .str s, .int g], .oins 2 [.int t, .int rate], .int j]) rfl ?_
    unfold B_f_least_for_lifetime
    (with_reducible (refine wp_sRt ?_; refine wp_eCall ?_; refine wp_aCons ?_; refine wp_eV ?_; refine gv_0 ?_; refine nu_ins ?_; refine fz_ins ?_; refine st_0 ?_; refine wp_aCons ?_; refine wp_eCall ?_; refine wp_aCons ?_; refine wp_eV ?_; refine gv_s ?_; refine gv_0 ?_; refine nu_oins ?_; refine fz_oins ?_; refine st_s ?_; refine st_0 ?_; refine wp_aCons ?_; refine wp_eV ?_; refine gv_s ?_; refine gv_s ?_; refine gv_0 ?_; refine nu_int ?_; refine fz_int ?_; refine st_s ?_; refine st_s ?_; refine st_0 ?_; refine wp_aNil ?_; simp only [freezeL, freeze]))
    refine fF_of (lchan_ok ht hr hk hj) ?_
    (with_reducible (refine pbc_n ?_; refine pbc_n ?_; refine pbc_0 ?_; refine wp_aNil ?_))
    refine fF_of (least_okC hs hj) ?_
    (with_reducible (refine pbc_n ?_; refine pbc_n ?_; refine pbc_0 ?_; refine endF_rt (by with_unfolding_all rfl) (by with_unfolding_all rfl) ?_))
    rfl
theorem longest_no {w r g j rate N : Int} {a s : Str} (hw : 1 ≤ w ∧ w ≤ 1000) (hr : 1 ≤ r ∧ r ≤ 1000) (hg : grp a g) (hs : four s) (hra : 1 ≤ rate ∧ rate ≤ 1000) (hj : 0 ≤ j ∧ j ≤ 1000) (hN : 1 ≤ N ∧ N ≤ 2000000) (hb : N < ls (isRe w s) w r a g (rate * (0 + 1) - 1) j) :
    F_f_longest_lifetime [RD w r a s g, .int rate, .int j, .int N] = .ok .non [] := by
  refine def_ok (env := [.ins 0 [.int w, .int r, .str a, .str s, .int g], .int rate, .int j, .int N, .un, .un, .un]) rfl ?_
  unfold B_f_longest_lifetime
  (with_reducible (refine wp_sSeq ?_; refine wp_sEx ?_; refine wp_eCall ?_; refine wp_aCons ?_; refine wp_eV ?_; refine gv_s ?_; refine gv_s ?_; refine gv_s ?_; refine gv_0 ?_; refine nu_int ?_; refine fz_int ?_; refine st_s ?_; refine st_s ?_; refine st_s ?_; refine st_0 ?_; refine wp_aNil ?_))
  refine fF_of (check_ok hN) ?_
  (with_reducible (refine pbc_n ?_; refine pbc_0 ?_; refine sq_nx ?_; refine wp_sSeq ?_; refine wp_sIf ?_; refine wp_qB ?_; refine wp_eBin ?_; refine wp_eV ?_; refine gv_s ?_; refine gv_s ?_; refine gv_s ?_; refine gv_0 ?_; refine nu_int ?_; refine fz_int ?_; refine st_s ?_; refine st_s ?_; refine st_s ?_; refine st_0 ?_; refine wp_eCall ?_; refine wp_aCons ?_; refine wp_eV ?_; refine gv_0 ?_; refine nu_ins ?_; refine fz_ins ?_; refine st_0 ?_; refine wp_aCons ?_; refine wp_eMk ?_; refine wp_aCons ?_; refine wp_eC ?_; refine wp_aCons ?_; refine wp_eV ?_; refine gv_s ?_; refine gv_0 ?_; refine nu_int ?_; refine fz_int ?_; refine st_s ?_; refine st_0 ?_; refine wp_aNil ?_))
  refine fF_of (life_ok (by decide) hra) ?_
  (with_reducible (refine mkP_ok ?_; refine pbc_n ?_; refine pbc_n ?_; refine pbc_0 ?_; refine wp_aCons ?_; refine wp_eV ?_; refine gv_s ?_; refine gv_s ?_; refine gv_0 ?_; refine nu_int ?_; refine fz_int ?_; refine st_s ?_; refine st_s ?_; refine st_0 ?_; refine wp_aNil ?_))
  refine fF_of (forlife_ok hs (by decide) hra (by omega) hj (.inr rfl)) ?_
  (with_reducible (refine pbc_n ?_; refine pbc_n ?_; refine pbc_n ?_; refine pbc_0 ?_; refine o_lt ?_; refine o_toB ?_; refine br_dT (by omega) ?_; refine wp_sRt ?_; refine wp_eC ?_; refine sq_rt ?_; refine endF_rt (by with_unfolding_all rfl) (by with_unfolding_all rfl) ?_))
  rfl
theorem longest_ok {w r g j rate N : Int} {a s : Str} (hw : 1 ≤ w ∧ w ≤ 1000) (hr : 1 ≤ r ∧ r ≤ 1000) (hg : grp a g) (hs : four s) (hra : 1 ≤ rate ∧ rate ≤ 1000) (hj : 0 ≤ j ∧ j ≤ 1000) (hN : 1 ≤ N ∧ N ≤ 2000000) (hb : ¬ N < ls (isRe w s) w r a g (rate * (0 + 1) - 1) j) :
    ∃ x : Int, F_f_longest_lifetime [RD w r a s g, .int rate, .int j, .int N] = .ok (.oins 2 [.int x, .int rate]) [] ∧ Spec (fun t => ls (isRe w s) w r a g (rate * (t + 1) - 1) j) N 0 (1001 / rate - 1) x := by
  obtain ⟨r_, ps, h, v, rfl, rfl, hh⟩ := def_ex (b := B_f_longest_lifetime) (nl := 3) (mk := [false, false, false, false]) (ds := [RD w r a s g, .int rate, .int j, .int N]) (env := [.ins 0 [.int w, .int r, .str a, .str s, .int g], .int rate, .int j, .int N, .un, .un, .un]) (fun r_ ps => ∃ v : Int, r_ = .oins 2 [.int v, .int rate] ∧ ps = [] ∧ Spec (fun t => ls (isRe w s) w r a g (rate * (t + 1) - 1) j) N 0 (1001 / rate - 1) v) rfl (by
    have hH : 0 ≤ 1001 / rate - 1 ∧ 1001 / rate - 1 ≤ 1000 := by
      have h1 : 1 ≤ 1001 / rate := Int.le_ediv_of_mul_le (by omega) (by omega)
      have h2 : 1001 / rate ≤ 1001 := Int.ediv_le_self _ (by decide)
      omega
    unfold B_f_longest_lifetime
    (with_reducible (refine wp_sSeq ?_; refine wp_sEx ?_; refine wp_eCall ?_; refine wp_aCons ?_; refine wp_eV ?_; refine gv_s ?_; refine gv_s ?_; refine gv_s ?_; refine gv_0 ?_; refine nu_int ?_; refine fz_int ?_; refine st_s ?_; refine st_s ?_; refine st_s ?_; refine st_0 ?_; refine wp_aNil ?_))
    refine fF_of (check_ok hN) ?_
    (with_reducible (refine pbc_n ?_; refine pbc_0 ?_; refine sq_nx ?_; refine wp_sSeq ?_; refine wp_sIf ?_; refine wp_qB ?_; refine wp_eBin ?_; refine wp_eV ?_; refine gv_s ?_; refine gv_s ?_; refine gv_s ?_; refine gv_0 ?_; refine nu_int ?_; refine fz_int ?_; refine st_s ?_; refine st_s ?_; refine st_s ?_; refine st_0 ?_; refine wp_eCall ?_; refine wp_aCons ?_; refine wp_eV ?_; refine gv_0 ?_; refine nu_ins ?_; refine fz_ins ?_; refine st_0 ?_; refine wp_aCons ?_; refine wp_eMk ?_; refine wp_aCons ?_; refine wp_eC ?_; refine wp_aCons ?_; refine wp_eV ?_; refine gv_s ?_; refine gv_0 ?_; refine nu_int ?_; refine fz_int ?_; refine st_s ?_; refine st_0 ?_; refine wp_aNil ?_))
    refine fF_of (life_ok (by decide) hra) ?_
    (with_reducible (refine mkP_ok ?_; refine pbc_n ?_; refine pbc_n ?_; refine pbc_0 ?_; refine wp_aCons ?_; refine wp_eV ?_; refine gv_s ?_; refine gv_s ?_; refine gv_0 ?_; refine nu_int ?_; refine fz_int ?_; refine st_s ?_; refine st_s ?_; refine st_0 ?_; refine wp_aNil ?_))
    refine fF_of (forlife_ok hs (by decide) hra (by omega) hj (.inr rfl)) ?_
    (with_reducible (refine pbc_n ?_; refine pbc_n ?_; refine pbc_n ?_; refine pbc_0 ?_; refine o_lt ?_; refine o_toB ?_; refine br_dF (by omega) ?_; refine wp_sNx ?_; refine sq_nx ?_; refine wp_sSeq ?_; refine wp_sSet ?_; refine wp_eC ?_; refine st_s ?_; refine st_s ?_; refine st_s ?_; refine st_s ?_; refine st_0 ?_; refine sq_nx ?_; refine wp_sSeq ?_; refine wp_sSet ?_; refine wp_eBin ?_; refine wp_eBin ?_; refine wp_eBin ?_; refine wp_eC ?_; refine wp_eC ?_; refine o_add ?_; refine wp_eV ?_; refine gv_s ?_; refine gv_0 ?_; refine nu_int ?_; refine fz_int ?_; refine st_s ?_; refine st_0 ?_; refine o_div (by omega) ?_; refine wp_eC ?_; refine o_sub ?_; refine st_s ?_; refine st_s ?_; refine st_s ?_; refine st_s ?_; refine st_s ?_; refine st_0 ?_; refine sq_nx ?_))
    rw [show (1000 + 1 : Int) = 1001 from rfl]
    have hkk : ∀ t : Int, 0 ≤ t → t ≤ 1001 / rate - 1 → 0 ≤ rate * (t + 1) - 1 ∧ rate * (t + 1) - 1 ≤ 1000 := fun t h0 h1 => ⟨by have := rate_ge hra.1 h0; omega, by have := rate_le (t := t) hra.1 h1; omega⟩
    generalize hHd : 1001 / rate - 1 = H at hH hkk ⊢
    (with_reducible (refine wp_sSeq ?_))
    refine wp_while (fun e => ∃ (x y : Int) (d6 : D), Mid (fun t => ls (isRe w s) w r a g (rate * (t + 1) - 1) j) N 0 H x y ∧ e = [.ins 0 [.int w, .int r, .str a, .str s, .int g], .int rate, .int j, .int N, .int x, .int y, d6]) (fun e => match e with | [_, _, _, _, .int x, .int y, _] => (y - x).toNat | _ => 0) ?_ _ ⟨_, _, _, ⟨by omega, by omega, by omega, fun z => absurd z (by omega), fun z => absurd z (by omega)⟩, rfl⟩ (by show (H - 0).toNat < 100000; omega)
    rintro env ⟨x, y, d6, h2, rfl⟩
    have p0 := h2.flo; have p1 := h2.fhi
    (with_reducible (refine wp_qB ?_; refine wp_eBin ?_; refine wp_eV ?_; refine gv_s ?_; refine gv_s ?_; refine gv_s ?_; refine gv_s ?_; refine gv_0 ?_; refine nu_int ?_; refine fz_int ?_; refine st_s ?_; refine st_s ?_; refine st_s ?_; refine st_s ?_; refine st_0 ?_; refine wp_eV ?_; refine gv_s ?_; refine gv_s ?_; refine gv_s ?_; refine gv_s ?_; refine gv_s ?_; refine gv_0 ?_; refine nu_int ?_; refine fz_int ?_; refine st_s ?_; refine st_s ?_; refine st_s ?_; refine st_s ?_; refine st_s ?_; refine st_0 ?_; refine o_lt ?_; refine o_toB ?_))
    (focus (refine br_d (fun hc => ?_) (fun hc => ?_); rotate_left; (with_reducible (refine sq_nx ?_; refine wp_sRt ?_; refine wp_eMk ?_; refine wp_aCons ?_; refine wp_eV ?_; refine gv_s ?_; refine gv_s ?_; refine gv_s ?_; refine gv_s ?_; refine gv_0 ?_; refine nu_int ?_; refine fz_int ?_; refine st_s ?_; refine st_s ?_; refine st_s ?_; refine st_s ?_; refine st_0 ?_; refine wp_aCons ?_; refine wp_eV ?_; refine gv_s ?_; refine gv_0 ?_; refine nu_int ?_; refine fz_int ?_; refine st_s ?_; refine st_0 ?_; refine wp_aNil ?_)); rotate_left; (with_reducible (refine wp_sSeq ?_; refine wp_sSet ?_; refine wp_eBin ?_; refine wp_eBin ?_; refine wp_eBin ?_; refine wp_eV ?_; refine gv_s ?_; refine gv_s ?_; refine gv_s ?_; refine gv_s ?_; refine gv_0 ?_; refine nu_int ?_; refine fz_int ?_; refine st_s ?_; refine st_s ?_; refine st_s ?_; refine st_s ?_; refine st_0 ?_; refine wp_eV ?_; refine gv_s ?_; refine gv_s ?_; refine gv_s ?_; refine gv_s ?_; refine gv_s ?_; refine gv_0 ?_; refine nu_int ?_; refine fz_int ?_; refine st_s ?_; refine st_s ?_; refine st_s ?_; refine st_s ?_; refine st_s ?_; refine st_0 ?_; refine o_add ?_; refine wp_eC ?_; refine o_add ?_; refine wp_eC ?_; refine o_div (by omega) ?_; refine st_s ?_; refine st_s ?_; refine st_s ?_; refine st_s ?_; refine st_s ?_; refine st_s ?_; refine st_0 ?_; refine sq_nx ?_; refine wp_sIf ?_; refine wp_qB ?_; refine wp_eBin ?_; refine wp_eCall ?_; refine wp_aCons ?_; refine wp_eV ?_; refine gv_0 ?_; refine nu_ins ?_; refine fz_ins ?_; refine st_0 ?_; refine wp_aCons ?_; refine wp_eMk ?_; refine wp_aCons ?_; refine wp_eV ?_; refine gv_s ?_; refine gv_s ?_; refine gv_s ?_; refine gv_s ?_; refine gv_s ?_; refine gv_s ?_; refine gv_0 ?_; refine nu_int ?_; refine fz_int ?_; refine st_s ?_; refine st_s ?_; refine st_s ?_; refine st_s ?_; refine st_s ?_; refine st_s ?_; refine st_0 ?_; refine wp_aCons ?_; refine wp_eV ?_; refine gv_s ?_; refine gv_0 ?_; refine nu_int ?_; refine fz_int ?_; refine st_s ?_; refine st_0 ?_; refine wp_aNil ?_))))
    · refine fF_of (life_ok (by omega) hra) ?_
      (with_reducible (refine mkP_ok ?_; refine pbc_n ?_; refine pbc_n ?_; refine pbc_0 ?_; refine wp_aCons ?_; refine wp_eV ?_; refine gv_s ?_; refine gv_s ?_; refine gv_0 ?_; refine nu_int ?_; refine fz_int ?_; refine st_s ?_; refine st_s ?_; refine st_0 ?_; refine wp_aNil ?_))
      refine fF_of (forlife_ok hs (by omega) hra (hkk _ (by omega) (by omega)) hj (.inr rfl)) ?_
      (with_reducible (refine pbc_n ?_; refine pbc_n ?_; refine pbc_n ?_; refine pbc_0 ?_; refine wp_eV ?_; refine gv_s ?_; refine gv_s ?_; refine gv_s ?_; refine gv_0 ?_; refine nu_int ?_; refine fz_int ?_; refine st_s ?_; refine st_s ?_; refine st_s ?_; refine st_0 ?_; refine o_le ?_; refine o_toB ?_))
      (focus (refine br_d (fun hf => ?_) (fun hf => ?_); rotate_left; (with_reducible (refine wp_sSet ?_; refine wp_eBin ?_; refine wp_eV ?_; refine gv_s ?_; refine gv_s ?_; refine gv_s ?_; refine gv_s ?_; refine gv_s ?_; refine gv_s ?_; refine gv_0 ?_; refine nu_int ?_; refine fz_int ?_; refine st_s ?_; refine st_s ?_; refine st_s ?_; refine st_s ?_; refine st_s ?_; refine st_s ?_; refine st_0 ?_; refine wp_eC ?_; refine o_sub ?_; refine st_s ?_; refine st_s ?_; refine st_s ?_; refine st_s ?_; refine st_s ?_; refine st_0 ?_; refine wh_nx ?_)); rotate_left; (with_reducible (refine wp_sSet ?_; refine wp_eV ?_; refine gv_s ?_; refine gv_s ?_; refine gv_s ?_; refine gv_s ?_; refine gv_s ?_; refine gv_s ?_; refine gv_0 ?_; refine nu_int ?_; refine fz_int ?_; refine st_s ?_; refine st_s ?_; refine st_s ?_; refine st_s ?_; refine st_s ?_; refine st_s ?_; refine st_0 ?_; refine st_s ?_; refine st_s ?_; refine st_s ?_; refine st_s ?_; refine st_0 ?_; refine wh_nx ?_))))
      · exact ⟨⟨_, _, _, h2.up hc hf, rfl⟩, by show (y - (x + y + 1) / 2).toNat < (y - x).toNat; omega⟩
      · exact ⟨⟨_, _, _, h2.down hc hf, rfl⟩, by show ((x + y + 1) / 2 - 1 - x).toNat < (y - x).toNat; omega⟩
    · have := h2.le
      refine fF_of (life_ok (by omega) hra) ?_
      (with_reducible (refine mkP_ok ?_; refine pbc_n ?_; refine pbc_n ?_; refine pbc_0 ?_; refine endP_rt (by with_unfolding_all rfl) ?_))
      exact ⟨_, rfl, rfl, h2.spec hc⟩)
  exact ⟨v, h, hh⟩
end Lw
namespace Lw
open PySem Pm
theorem ix_mem {l : List D} {i : Nat} (hi : i < l.length) : ixD (.tup l) (.int (0 + (i : Int))) = some l[i] ∧ ixD (.lst l) (.int (0 + (i : Int))) = some l[i] := by
  have h : L2.atI l (0 + (i : Int)) = some l[i] := by
    unfold L2.atI L2.ixN
    rw [if_pos (by omega), if_pos (by omega)]
    simp [hi]
  exact ⟨h, h⟩
theorem like_tup (n : Nat) {l : List D} (hl : l.length < 1000000) (hu : ∀ x ∈ l, isO x = false) (h : ∀ x ∈ l, R_f_law_like (n + 1) [x, x] = .ok (.bl true) []) : R_f_law_like (n + 2) [.tup l, .tup l] = .ok (.bl true) [] := by
  refine def_ok (env := [.tup l, .tup l, .un]) rfl ?_
  unfold B_f_law_like
  (with_reducible (refine wp_sSeq ?_; refine wp_sIf ?_; refine wp_qB ?_; refine wp_eIsN ?_; refine wp_eV ?_; refine gv_s ?_; refine gv_0 ?_; refine nu_tup ?_; refine fz_tup ?_; refine st_s ?_; refine st_0 ?_; refine o_isN (by with_unfolding_all rfl) ?_; refine o_toB ?_; refine br_f ?_; refine wp_sNx ?_; refine sq_nx ?_; refine wp_sSeq ?_; refine wp_sIf ?_; refine wp_qOr ?_; refine wp_qT ?_; refine wp_eIsi ?_; refine wp_eV ?_; refine gv_s ?_; refine gv_0 ?_; refine nu_tup ?_; refine fz_tup ?_; refine st_s ?_; refine st_0 ?_; refine o_isi (by with_unfolding_all rfl) ?_; refine o_truB ?_; refine br_f ?_; refine wp_qT ?_; refine wp_eIsi ?_; refine wp_eV ?_; refine gv_0 ?_; refine nu_tup ?_; refine fz_tup ?_; refine st_0 ?_; refine o_isi (by with_unfolding_all rfl) ?_; refine o_truB ?_; refine br_f ?_; refine wp_sNx ?_; refine sq_nx ?_; refine wp_sSeq ?_; refine wp_sIf ?_; refine wp_qOr ?_; refine wp_qT ?_; refine wp_eIsi ?_; refine wp_eV ?_; refine gv_s ?_; refine gv_0 ?_; refine nu_tup ?_; refine fz_tup ?_; refine st_s ?_; refine st_0 ?_; refine o_isi (by with_unfolding_all rfl) ?_; refine o_truB ?_; refine br_f ?_; refine wp_qT ?_; refine wp_eIsi ?_; refine wp_eV ?_; refine gv_s ?_; refine gv_0 ?_; refine nu_tup ?_; refine fz_tup ?_; refine st_s ?_; refine st_0 ?_; refine o_isi (by with_unfolding_all rfl) ?_; refine o_truB ?_; refine br_f ?_; refine wp_sNx ?_; refine sq_nx ?_; refine wp_sSeq ?_; refine wp_sIf ?_; refine wp_qOr ?_; refine wp_qB ?_; refine wp_eBin ?_; refine wp_eIsi ?_; refine wp_eV ?_; refine gv_s ?_; refine gv_0 ?_; refine nu_tup ?_; refine fz_tup ?_; refine st_s ?_; refine st_0 ?_; refine o_isi (by with_unfolding_all rfl) ?_; refine wp_eIsi ?_; refine wp_eV ?_; refine gv_0 ?_; refine nu_tup ?_; refine fz_tup ?_; refine st_0 ?_; refine o_isi (by with_unfolding_all rfl) ?_; refine o_neB ?_; refine o_toB ?_; refine br_bneF (by with_unfolding_all rfl) ?_; refine wp_qB ?_; refine wp_eBin ?_; refine wp_eIsi ?_; refine wp_eV ?_; refine gv_s ?_; refine gv_0 ?_; refine nu_tup ?_; refine fz_tup ?_; refine st_s ?_; refine st_0 ?_; refine o_isi (by with_unfolding_all rfl) ?_; refine wp_eIsi ?_; refine wp_eV ?_; refine gv_0 ?_; refine nu_tup ?_; refine fz_tup ?_; refine st_0 ?_; refine o_isi (by with_unfolding_all rfl) ?_; refine o_neB ?_; refine o_toB ?_; refine br_bneF (by with_unfolding_all rfl) ?_; refine wp_sNx ?_; refine sq_nx ?_; refine wp_sSeq ?_; refine wp_sIf ?_; refine wp_qOr ?_; refine wp_qNot ?_; refine wp_qT ?_; refine wp_eIsi ?_; refine wp_eV ?_; refine gv_0 ?_; refine nu_tup ?_; refine fz_tup ?_; refine st_0 ?_; refine o_isi (by with_unfolding_all rfl) ?_; refine o_truB ?_; refine br_n ?_; refine br_t ?_; refine wp_qB ?_; refine wp_eBin ?_; refine wp_eB ?_; refine wp_aCons ?_; refine wp_eTk ?_; refine gv_0 ?_; refine nu_tup ?_; refine st_0 ?_; refine wp_aNil ?_; refine o_lenT ?_; refine pbk_s ?_; refine st_0 ?_; refine pbk_0 ?_; refine wp_eB ?_; refine wp_aCons ?_; refine wp_eTk ?_; refine gv_s ?_; refine gv_0 ?_; refine nu_tup ?_; refine st_s ?_; refine st_0 ?_; refine wp_aNil ?_; refine o_lenT ?_; refine pbk_s ?_; refine st_s ?_; refine st_0 ?_; refine pbk_0 ?_; refine o_neI ?_; refine o_toB ?_; refine br_dF (by omega) ?_; refine wp_sNx ?_; refine sq_nx ?_))
  (with_reducible (refine wp_sSeq ?_; refine wp_sFor ?_; refine wp_iRg1 ?_; refine wp_aCons ?_; refine wp_eB ?_; refine wp_aCons ?_; refine wp_eTk ?_; refine gv_s ?_; refine gv_0 ?_; refine nu_tup ?_; refine st_s ?_; refine st_0 ?_; refine wp_aNil ?_; refine o_lenT ?_; refine pbk_s ?_; refine st_s ?_; refine st_0 ?_; refine pbk_0 ?_; refine wp_aNil ?_; refine o_rng1 (by omega) ?_))
  refine wp_loop (fun _ e => ∃ k : D, e = [.tup l, .tup l, k]) _ ?_ ?_ ⟨_, rfl⟩
  · rintro i d env hd ⟨k, rfl⟩
    obtain ⟨rfl, hlt⟩ := rng_at hd
    have hi : i < l.length := by omega
    (with_reducible (refine wp_gN ?_; refine st_s ?_; refine st_s ?_; refine st_0 ?_; refine wp_sIf ?_; refine wp_qNot ?_; refine wp_qT ?_; refine wp_eCall ?_; refine wp_aCons ?_; refine wp_eIxW ?_; refine gv_0 ?_; refine nu_tup ?_; refine wp_eV ?_; refine gv_s ?_; refine gv_s ?_; refine gv_0 ?_; refine nu_int ?_; refine fz_int ?_; refine st_s ?_; refine st_s ?_; refine st_0 ?_; refine gv_0 ?_; refine nu_tup ?_))
    refine opt_of (ix_mem hi).1 (br_isO (hu _ (List.getElem_mem hi)) ?_)
    (with_reducible (refine wp_aCons ?_; refine wp_eIxW ?_; refine gv_s ?_; refine gv_0 ?_; refine nu_tup ?_; refine wp_eV ?_; refine gv_s ?_; refine gv_s ?_; refine gv_0 ?_; refine nu_int ?_; refine fz_int ?_; refine st_s ?_; refine st_s ?_; refine st_0 ?_; refine gv_s ?_; refine gv_0 ?_; refine nu_tup ?_))
    refine opt_of (ix_mem hi).1 (br_isO (hu _ (List.getElem_mem hi)) ?_)
    (with_reducible (refine wp_aNil ?_))
    refine fF_of (h _ (List.getElem_mem hi)) ?_
    (with_reducible (refine pbc_n ?_; refine pbc_n ?_; refine pbc_0 ?_; refine o_truB ?_; refine br_n ?_; refine br_t ?_; refine wp_sNx ?_; dsimp only))
    exact ⟨_, rfl⟩
  · rintro env ⟨k, rfl⟩
    (with_reducible (refine sq_nx ?_; refine wp_sRt ?_; refine wp_eC ?_; refine endF_rt (by with_unfolding_all rfl) (by with_unfolding_all rfl) ?_))
    rfl
theorem o_strB {i : Int} {k : D → Prop} (c : 0 ≤ i ∧ i ≤ 1000000) (h : k (.str (Str.ofString (toString i)))) : opt (strB [.int i]) k := by
  refine opt_of ?_ h
  show (if i.natAbs.log2 < 1920 then _ else _) = _
  rw [if_pos]
  have h1 : i.natAbs < 2 ^ 20 := by omega
  by_cases h0 : i.natAbs = 0
  · rw [h0]; decide
  · have := (Nat.log2_lt h0).mpr h1
    omega
theorem o_addS {a b : Str} {k : D → Prop} (c : a.length + b.length ≤ 16777216) (h : k (.str (a ++ b))) : opt (addD (.str a) (.str b)) k := by
  refine opt_of ?_ h
  show (if a.length + b.length ≤ 16777216 then _ else _) = _
  rw [if_pos c]
theorem like_pair (x y : Int) : F_f_law_like [.tup [.int x, .int y], .tup [.int x, .int y]] = .ok (.bl true) [] := by
  refine like_tup 6 (by simp) (by intro z hz; rcases List.mem_cons.mp hz with rfl | hz; rfl; rcases List.mem_cons.mp hz with rfl | hz; rfl; cases hz) fun z hz => ?_
  rcases List.mem_cons.mp hz with rfl | hz
  · rw [like_int]; simp
  · rcases List.mem_cons.mp hz with rfl | hz
    · rw [like_int]; simp
    · cases hz
theorem ix4 {a b c d : D} {e : Int} {Q : D → Prop} {K : D → Prop} (h : 0 ≤ e ∧ e < 4) (ha : Q a) (hb : Q b) (hc : Q c) (hd : Q d) (k : ∀ r, Q r → K r) : opt (ixD (.olst [a, b, c, d]) (.int e)) K := by
  have : e = 0 ∨ e = 1 ∨ e = 2 ∨ e = 3 := by omega
  rcases this with rfl | rfl | rfl | rfl
  · exact opt_of rfl (k _ ha)
  · exact opt_of rfl (k _ hb)
  · exact opt_of rfl (k _ hc)
  · exact opt_of rfl (k _ hd)
theorem strB_eq {i : Int} (c : 0 ≤ i ∧ i ≤ 1000000) : strB [.int i] = some (.str (Str.ofString (toString i))) := by
  obtain ⟨h⟩ := o_strB (i := i) (k := fun d => d = .str (Str.ofString (toString i))) c rfl
  revert h
  cases strB [.int i] with
  | none => exact False.elim
  | some d => exact fun h => congrArg some h
def isS (d : D) : Prop := ∃ s, d = .str s ∧ four s
def chk3 (n : Nat) : Bool := decide ((Str.ofString "every ").length + (Str.ofString (toString ((n : Nat) : Int))).length ≤ 100)
theorem chk3_all : (List.range 1001).all chk3 = true := by decide +kernel
theorem str_len {i : Int} (h : 0 ≤ i ∧ i ≤ 1000) : (Str.ofString "every ").length + (Str.ofString (toString i)).length ≤ 16777216 := by
  have := List.all_eq_true.mp chk3_all i.toNat (List.mem_range.mpr (by omega))
  have := of_decide_eq_true this
  rw [show ((i.toNat : Nat) : Int) = i by omega] at this
  omega
def drD (r g : Int) (a s : Str) : D := .tup [.int r, .int g, .str a, .str s]
theorem six {x : Int} (h : 0 ≤ x ∧ x < 6) : x = 0 ∨ x = 1 ∨ x = 2 ∨ x = 3 ∨ x = 4 ∨ x = 5 := by omega
theorem four4 {x : Int} (h : 0 ≤ x ∧ x < 4) : x = 0 ∨ x = 1 ∨ x = 2 ∨ x = 3 := by omega
theorem grp_every {i : Int} (h : 2 ≤ i ∧ i ≤ 1000) : grp (Str.ofString "every " ++ Str.ofString (toString i)) i := by
  refine .inr (.inr (.inr ⟨(i - 2).toNat, by omega, by omega, ?_⟩))
  rw [show (((i - 2).toNat + 2 : Nat) : Int) = i by omega]
theorem rule_drawn_ok (row : List Int) (hr : row.length = 14) : ∃ (r g : Int) (a s : Str), F_f_law_rule_drawn [.lst (row.map D.int)] = .ok (drD r g a s) [] ∧ (1 ≤ r ∧ r ≤ 1000) ∧ grp a g ∧ four s := by
  obtain ⟨r_, ps, h, r, g, a, s, rfl, rfl, hh⟩ := def_ex (b := B_f_law_rule_drawn) (nl := 4) (mk := [false]) (ds := [.lst (row.map D.int)]) (env := [.lst (row.map D.int), .un, .un, .un, .un]) (fun r_ ps => ∃ (r g : Int) (a s : Str), r_ = drD r g a s ∧ ps = [] ∧ (1 ≤ r ∧ r ≤ 1000) ∧ grp a g ∧ four s) rfl (by
    unfold B_f_law_rule_drawn
    (with_reducible (refine wp_sSeq ?_; refine wp_sSet ?_; refine wp_eBin ?_; refine wp_eC ?_; refine wp_eBin ?_; refine wp_eIxW ?_; refine gv_0 ?_; refine nu_lst ?_; refine wp_eC ?_; refine gv_0 ?_; refine nu_lst ?_; refine o_ixIL (by omega) (by omega) ?_; refine br_isO (by with_unfolding_all rfl) ?_; refine wp_eC ?_; refine o_mod (by omega) ?_; refine o_add ?_; refine st_s ?_; refine st_0 ?_; refine sq_nx ?_))
    refine wp_cut (fun e => ∃ r : Int, (1 ≤ r ∧ r ≤ 1000) ∧ e = [.lst (row.map D.int), .int r, .un, .un, .un]) ?_ ?_
    · (with_reducible (refine wp_sIf ?_; refine wp_qB ?_; refine wp_eBin ?_; refine wp_eBin ?_; refine wp_eIxW ?_; refine gv_0 ?_; refine nu_lst ?_; refine wp_eC ?_; refine gv_0 ?_; refine nu_lst ?_; refine o_ixIL (by omega) (by omega) ?_; refine br_isO (by with_unfolding_all rfl) ?_; refine wp_eC ?_; refine o_mod (by omega) ?_; refine wp_eC ?_; refine o_eqI ?_; refine o_toB ?_))
      (focus (refine br_d (fun h => ?_) (fun h => ?_); rotate_left; (with_reducible (refine wp_sNx ?_; refine ⟨by with_unfolding_all rfl, ?_⟩)); rotate_left; (with_reducible (refine wp_sSet ?_; refine wp_eBin ?_; refine wp_eC ?_; refine wp_eBin ?_; refine wp_eIxW ?_; refine gv_0 ?_; refine nu_lst ?_; refine wp_eC ?_; refine gv_0 ?_; refine nu_lst ?_; refine o_ixIL (by omega) (by omega) ?_; refine br_isO (by with_unfolding_all rfl) ?_; refine wp_eC ?_; refine o_mod (by omega) ?_; refine o_add ?_; refine st_s ?_; refine st_0 ?_; refine ⟨by with_unfolding_all rfl, ?_⟩))))
      · exact ⟨_, by omega, rfl⟩
      · exact ⟨_, by omega, rfl⟩
    · rintro e ⟨r, hr1, rfl⟩
      (with_reducible (refine wp_sSeq ?_; refine wp_sSet ?_; refine wp_eBin ?_; refine wp_eIxW ?_; refine gv_0 ?_; refine nu_lst ?_; refine wp_eC ?_; refine gv_0 ?_; refine nu_lst ?_; refine o_ixIL (by omega) (by omega) ?_; refine br_isO (by with_unfolding_all rfl) ?_; refine wp_eC ?_; refine o_mod (by omega) ?_; refine st_s ?_; refine st_s ?_; refine st_0 ?_; refine sq_nx ?_; refine wp_sSeq ?_; refine wp_sSet ?_; refine wp_eBin ?_; refine wp_eLst ?_; refine wp_aCons ?_; refine wp_eC ?_; refine wp_aCons ?_; refine wp_eBin ?_; refine wp_eC ?_; refine wp_eBin ?_; refine wp_eIxW ?_; refine gv_0 ?_; refine nu_lst ?_; refine wp_eC ?_; refine gv_0 ?_; refine nu_lst ?_; refine o_ixIL (by omega) (by omega) ?_; refine br_isO (by with_unfolding_all rfl) ?_; refine wp_eC ?_; refine o_mod (by omega) ?_; refine o_add ?_; refine wp_aCons ?_; refine wp_eC ?_; refine wp_aCons ?_; refine wp_eC ?_; refine wp_aCons ?_; refine wp_eC ?_; refine wp_aCons ?_; refine wp_eBin ?_; refine wp_eC ?_; refine wp_eBin ?_; refine wp_eIxW ?_; refine gv_0 ?_; refine nu_lst ?_; refine wp_eC ?_; refine gv_0 ?_; refine nu_lst ?_; refine o_ixIL (by omega) (by omega) ?_; refine br_isO (by with_unfolding_all rfl) ?_; refine wp_eC ?_; refine o_mod (by omega) ?_; refine o_add ?_; refine wp_aNil ?_; refine len_ok (by with_unfolding_all rfl) ?_; refine wp_eV ?_; refine gv_s ?_; refine gv_s ?_; refine gv_0 ?_; refine nu_int ?_; refine fz_int ?_; refine st_s ?_; refine st_s ?_; refine st_0 ?_))
      have hw := six (x := row.getD (3 : Int).toNat 0 % 6) (by omega)
      generalize row.getD (3 : Int).toNat 0 % 6 = way at hw ⊢
      rcases hw with rfl | rfl | rfl | rfl | rfl | rfl
      · have hst := strB_eq (i := 1) (by omega)
        have hln := str_len (i := 1) (by omega)
        (with_reducible (refine o_ix (by with_unfolding_all rfl) ?_; refine st_s ?_; refine st_s ?_; refine st_s ?_; refine st_0 ?_; refine sq_nx ?_; refine wp_sSeq ?_; refine wp_sSet ?_; refine wp_eBin ?_; refine wp_eLst ?_; refine wp_aCons ?_; refine wp_eC ?_; refine wp_aCons ?_; refine wp_eBin ?_; refine wp_eC ?_; refine wp_eB ?_; refine wp_aCons ?_; refine wp_eTk ?_; refine gv_s ?_; refine gv_s ?_; refine gv_s ?_; refine gv_0 ?_; refine nu_int ?_; refine st_s ?_; refine st_s ?_; refine st_s ?_; refine st_0 ?_; refine wp_aNil ?_; refine opt_of (by assumption) ?_; refine pbk_s ?_; refine st_s ?_; refine st_s ?_; refine st_s ?_; refine st_0 ?_; refine pbk_0 ?_; refine o_addSS (by omega) ?_; refine wp_aCons ?_; refine wp_eC ?_; refine wp_aCons ?_; refine wp_eC ?_; refine wp_aCons ?_; refine wp_eC ?_; refine wp_aCons ?_; refine wp_eBin ?_; refine wp_eC ?_; refine wp_eB ?_; refine wp_aCons ?_; refine wp_eTk ?_; refine gv_s ?_; refine gv_s ?_; refine gv_s ?_; refine gv_0 ?_; refine nu_int ?_; refine st_s ?_; refine st_s ?_; refine st_s ?_; refine st_0 ?_; refine wp_aNil ?_; refine opt_of (by assumption) ?_; refine pbk_s ?_; refine st_s ?_; refine st_s ?_; refine st_s ?_; refine st_0 ?_; refine pbk_0 ?_; refine o_addSS (by omega) ?_; refine wp_aNil ?_; refine len_ok (by with_unfolding_all rfl) ?_; refine wp_eV ?_; refine gv_s ?_; refine gv_s ?_; refine gv_0 ?_; refine nu_int ?_; refine fz_int ?_; refine st_s ?_; refine st_s ?_; refine st_0 ?_; refine o_ix (by with_unfolding_all rfl) ?_; refine st_s ?_; refine st_s ?_; refine st_s ?_; refine st_s ?_; refine st_0 ?_; refine sq_nx ?_; refine wp_sRt ?_; refine wp_eTup ?_; refine wp_aCons ?_; refine wp_eV ?_; refine gv_s ?_; refine gv_0 ?_; refine nu_int ?_; refine fz_int ?_; refine st_s ?_; refine st_0 ?_; refine wp_aCons ?_; refine wp_eV ?_; refine gv_s ?_; refine gv_s ?_; refine gv_s ?_; refine gv_0 ?_; refine nu_int ?_; refine fz_int ?_; refine st_s ?_; refine st_s ?_; refine st_s ?_; refine st_0 ?_; refine wp_aCons ?_; refine wp_eV ?_; refine gv_s ?_; refine gv_s ?_; refine gv_s ?_; refine gv_s ?_; refine gv_0 ?_; refine nu_str ?_; refine fz_str ?_; refine st_s ?_; refine st_s ?_; refine st_s ?_; refine st_s ?_; refine st_0 ?_; refine wp_aCons ?_; refine wp_eBin ?_; refine wp_eLst ?_; refine wp_aCons ?_; refine wp_eC ?_; refine wp_aCons ?_; refine wp_eC ?_; refine wp_aCons ?_; refine wp_eC ?_; refine wp_aCons ?_; refine wp_eC ?_; refine wp_aNil ?_; refine len_ok (by with_unfolding_all rfl) ?_; refine wp_eBin ?_; refine wp_eIxW ?_; refine gv_0 ?_; refine nu_lst ?_; refine wp_eC ?_; refine gv_0 ?_; refine nu_lst ?_; refine o_ixIL (by omega) (by omega) ?_; refine br_isO (by with_unfolding_all rfl) ?_; refine wp_eC ?_; refine o_mod (by omega) ?_))
        refine ix4 (Q := isS) (by omega) ⟨_, rfl, .inl rfl⟩ ⟨_, rfl, .inr (.inl rfl)⟩ ⟨_, rfl, .inr (.inr (.inl rfl))⟩ ⟨_, rfl, .inr (.inr (.inr rfl))⟩ ?_
        rintro _ ⟨s, rfl, hs⟩
        (with_reducible (refine wp_aNil ?_; refine len_ok (by with_unfolding_all rfl) ?_; refine mkt_t (by with_unfolding_all rfl) ?_; refine endP_rt (by with_unfolding_all rfl) ?_))
        exact ⟨_, _, _, _, rfl, rfl, hr1, .inl ⟨rfl, rfl⟩, hs⟩
      · have hst := strB_eq (i := 2 + row.getD (2 : Int).toNat 0 % 9) (by omega)
        have hln := str_len (i := 2 + row.getD (2 : Int).toNat 0 % 9) (by omega)
        (with_reducible (refine o_ix (by with_unfolding_all rfl) ?_; refine st_s ?_; refine st_s ?_; refine st_s ?_; refine st_0 ?_; refine sq_nx ?_; refine wp_sSeq ?_; refine wp_sSet ?_; refine wp_eBin ?_; refine wp_eLst ?_; refine wp_aCons ?_; refine wp_eC ?_; refine wp_aCons ?_; refine wp_eBin ?_; refine wp_eC ?_; refine wp_eB ?_; refine wp_aCons ?_; refine wp_eTk ?_; refine gv_s ?_; refine gv_s ?_; refine gv_s ?_; refine gv_0 ?_; refine nu_int ?_; refine st_s ?_; refine st_s ?_; refine st_s ?_; refine st_0 ?_; refine wp_aNil ?_; refine opt_of (by assumption) ?_; refine pbk_s ?_; refine st_s ?_; refine st_s ?_; refine st_s ?_; refine st_0 ?_; refine pbk_0 ?_; refine o_addSS (by omega) ?_; refine wp_aCons ?_; refine wp_eC ?_; refine wp_aCons ?_; refine wp_eC ?_; refine wp_aCons ?_; refine wp_eC ?_; refine wp_aCons ?_; refine wp_eBin ?_; refine wp_eC ?_; refine wp_eB ?_; refine wp_aCons ?_; refine wp_eTk ?_; refine gv_s ?_; refine gv_s ?_; refine gv_s ?_; refine gv_0 ?_; refine nu_int ?_; refine st_s ?_; refine st_s ?_; refine st_s ?_; refine st_0 ?_; refine wp_aNil ?_; refine opt_of (by assumption) ?_; refine pbk_s ?_; refine st_s ?_; refine st_s ?_; refine st_s ?_; refine st_0 ?_; refine pbk_0 ?_; refine o_addSS (by omega) ?_; refine wp_aNil ?_; refine len_ok (by with_unfolding_all rfl) ?_; refine wp_eV ?_; refine gv_s ?_; refine gv_s ?_; refine gv_0 ?_; refine nu_int ?_; refine fz_int ?_; refine st_s ?_; refine st_s ?_; refine st_0 ?_; refine o_ix (by with_unfolding_all rfl) ?_; refine st_s ?_; refine st_s ?_; refine st_s ?_; refine st_s ?_; refine st_0 ?_; refine sq_nx ?_; refine wp_sRt ?_; refine wp_eTup ?_; refine wp_aCons ?_; refine wp_eV ?_; refine gv_s ?_; refine gv_0 ?_; refine nu_int ?_; refine fz_int ?_; refine st_s ?_; refine st_0 ?_; refine wp_aCons ?_; refine wp_eV ?_; refine gv_s ?_; refine gv_s ?_; refine gv_s ?_; refine gv_0 ?_; refine nu_int ?_; refine fz_int ?_; refine st_s ?_; refine st_s ?_; refine st_s ?_; refine st_0 ?_; refine wp_aCons ?_; refine wp_eV ?_; refine gv_s ?_; refine gv_s ?_; refine gv_s ?_; refine gv_s ?_; refine gv_0 ?_; refine nu_str ?_; refine fz_str ?_; refine st_s ?_; refine st_s ?_; refine st_s ?_; refine st_s ?_; refine st_0 ?_; refine wp_aCons ?_; refine wp_eBin ?_; refine wp_eLst ?_; refine wp_aCons ?_; refine wp_eC ?_; refine wp_aCons ?_; refine wp_eC ?_; refine wp_aCons ?_; refine wp_eC ?_; refine wp_aCons ?_; refine wp_eC ?_; refine wp_aNil ?_; refine len_ok (by with_unfolding_all rfl) ?_; refine wp_eBin ?_; refine wp_eIxW ?_; refine gv_0 ?_; refine nu_lst ?_; refine wp_eC ?_; refine gv_0 ?_; refine nu_lst ?_; refine o_ixIL (by omega) (by omega) ?_; refine br_isO (by with_unfolding_all rfl) ?_; refine wp_eC ?_; refine o_mod (by omega) ?_))
        refine ix4 (Q := isS) (by omega) ⟨_, rfl, .inl rfl⟩ ⟨_, rfl, .inr (.inl rfl)⟩ ⟨_, rfl, .inr (.inr (.inl rfl))⟩ ⟨_, rfl, .inr (.inr (.inr rfl))⟩ ?_
        rintro _ ⟨s, rfl, hs⟩
        (with_reducible (refine wp_aNil ?_; refine len_ok (by with_unfolding_all rfl) ?_; refine mkt_t (by with_unfolding_all rfl) ?_; refine endP_rt (by with_unfolding_all rfl) ?_))
        exact ⟨_, _, _, _, rfl, rfl, hr1, grp_every (by omega), hs⟩
      · have hst := strB_eq (i := 0) (by omega)
        have hln := str_len (i := 0) (by omega)
        (with_reducible (refine o_ix (by with_unfolding_all rfl) ?_; refine st_s ?_; refine st_s ?_; refine st_s ?_; refine st_0 ?_; refine sq_nx ?_; refine wp_sSeq ?_; refine wp_sSet ?_; refine wp_eBin ?_; refine wp_eLst ?_; refine wp_aCons ?_; refine wp_eC ?_; refine wp_aCons ?_; refine wp_eBin ?_; refine wp_eC ?_; refine wp_eB ?_; refine wp_aCons ?_; refine wp_eTk ?_; refine gv_s ?_; refine gv_s ?_; refine gv_s ?_; refine gv_0 ?_; refine nu_int ?_; refine st_s ?_; refine st_s ?_; refine st_s ?_; refine st_0 ?_; refine wp_aNil ?_; refine opt_of (by assumption) ?_; refine pbk_s ?_; refine st_s ?_; refine st_s ?_; refine st_s ?_; refine st_0 ?_; refine pbk_0 ?_; refine o_addSS (by omega) ?_; refine wp_aCons ?_; refine wp_eC ?_; refine wp_aCons ?_; refine wp_eC ?_; refine wp_aCons ?_; refine wp_eC ?_; refine wp_aCons ?_; refine wp_eBin ?_; refine wp_eC ?_; refine wp_eB ?_; refine wp_aCons ?_; refine wp_eTk ?_; refine gv_s ?_; refine gv_s ?_; refine gv_s ?_; refine gv_0 ?_; refine nu_int ?_; refine st_s ?_; refine st_s ?_; refine st_s ?_; refine st_0 ?_; refine wp_aNil ?_; refine opt_of (by assumption) ?_; refine pbk_s ?_; refine st_s ?_; refine st_s ?_; refine st_s ?_; refine st_0 ?_; refine pbk_0 ?_; refine o_addSS (by omega) ?_; refine wp_aNil ?_; refine len_ok (by with_unfolding_all rfl) ?_; refine wp_eV ?_; refine gv_s ?_; refine gv_s ?_; refine gv_0 ?_; refine nu_int ?_; refine fz_int ?_; refine st_s ?_; refine st_s ?_; refine st_0 ?_; refine o_ix (by with_unfolding_all rfl) ?_; refine st_s ?_; refine st_s ?_; refine st_s ?_; refine st_s ?_; refine st_0 ?_; refine sq_nx ?_; refine wp_sRt ?_; refine wp_eTup ?_; refine wp_aCons ?_; refine wp_eV ?_; refine gv_s ?_; refine gv_0 ?_; refine nu_int ?_; refine fz_int ?_; refine st_s ?_; refine st_0 ?_; refine wp_aCons ?_; refine wp_eV ?_; refine gv_s ?_; refine gv_s ?_; refine gv_s ?_; refine gv_0 ?_; refine nu_int ?_; refine fz_int ?_; refine st_s ?_; refine st_s ?_; refine st_s ?_; refine st_0 ?_; refine wp_aCons ?_; refine wp_eV ?_; refine gv_s ?_; refine gv_s ?_; refine gv_s ?_; refine gv_s ?_; refine gv_0 ?_; refine nu_str ?_; refine fz_str ?_; refine st_s ?_; refine st_s ?_; refine st_s ?_; refine st_s ?_; refine st_0 ?_; refine wp_aCons ?_; refine wp_eBin ?_; refine wp_eLst ?_; refine wp_aCons ?_; refine wp_eC ?_; refine wp_aCons ?_; refine wp_eC ?_; refine wp_aCons ?_; refine wp_eC ?_; refine wp_aCons ?_; refine wp_eC ?_; refine wp_aNil ?_; refine len_ok (by with_unfolding_all rfl) ?_; refine wp_eBin ?_; refine wp_eIxW ?_; refine gv_0 ?_; refine nu_lst ?_; refine wp_eC ?_; refine gv_0 ?_; refine nu_lst ?_; refine o_ixIL (by omega) (by omega) ?_; refine br_isO (by with_unfolding_all rfl) ?_; refine wp_eC ?_; refine o_mod (by omega) ?_))
        refine ix4 (Q := isS) (by omega) ⟨_, rfl, .inl rfl⟩ ⟨_, rfl, .inr (.inl rfl)⟩ ⟨_, rfl, .inr (.inr (.inl rfl))⟩ ⟨_, rfl, .inr (.inr (.inr rfl))⟩ ?_
        rintro _ ⟨s, rfl, hs⟩
        (with_reducible (refine wp_aNil ?_; refine len_ok (by with_unfolding_all rfl) ?_; refine mkt_t (by with_unfolding_all rfl) ?_; refine endP_rt (by with_unfolding_all rfl) ?_))
        exact ⟨_, _, _, _, rfl, rfl, hr1, .inr (.inl ⟨rfl, rfl⟩), hs⟩
      · have hst := strB_eq (i := 0) (by omega)
        have hln := str_len (i := 0) (by omega)
        (with_reducible (refine o_ix (by with_unfolding_all rfl) ?_; refine st_s ?_; refine st_s ?_; refine st_s ?_; refine st_0 ?_; refine sq_nx ?_; refine wp_sSeq ?_; refine wp_sSet ?_; refine wp_eBin ?_; refine wp_eLst ?_; refine wp_aCons ?_; refine wp_eC ?_; refine wp_aCons ?_; refine wp_eBin ?_; refine wp_eC ?_; refine wp_eB ?_; refine wp_aCons ?_; refine wp_eTk ?_; refine gv_s ?_; refine gv_s ?_; refine gv_s ?_; refine gv_0 ?_; refine nu_int ?_; refine st_s ?_; refine st_s ?_; refine st_s ?_; refine st_0 ?_; refine wp_aNil ?_; refine opt_of (by assumption) ?_; refine pbk_s ?_; refine st_s ?_; refine st_s ?_; refine st_s ?_; refine st_0 ?_; refine pbk_0 ?_; refine o_addSS (by omega) ?_; refine wp_aCons ?_; refine wp_eC ?_; refine wp_aCons ?_; refine wp_eC ?_; refine wp_aCons ?_; refine wp_eC ?_; refine wp_aCons ?_; refine wp_eBin ?_; refine wp_eC ?_; refine wp_eB ?_; refine wp_aCons ?_; refine wp_eTk ?_; refine gv_s ?_; refine gv_s ?_; refine gv_s ?_; refine gv_0 ?_; refine nu_int ?_; refine st_s ?_; refine st_s ?_; refine st_s ?_; refine st_0 ?_; refine wp_aNil ?_; refine opt_of (by assumption) ?_; refine pbk_s ?_; refine st_s ?_; refine st_s ?_; refine st_s ?_; refine st_0 ?_; refine pbk_0 ?_; refine o_addSS (by omega) ?_; refine wp_aNil ?_; refine len_ok (by with_unfolding_all rfl) ?_; refine wp_eV ?_; refine gv_s ?_; refine gv_s ?_; refine gv_0 ?_; refine nu_int ?_; refine fz_int ?_; refine st_s ?_; refine st_s ?_; refine st_0 ?_; refine o_ix (by with_unfolding_all rfl) ?_; refine st_s ?_; refine st_s ?_; refine st_s ?_; refine st_s ?_; refine st_0 ?_; refine sq_nx ?_; refine wp_sRt ?_; refine wp_eTup ?_; refine wp_aCons ?_; refine wp_eV ?_; refine gv_s ?_; refine gv_0 ?_; refine nu_int ?_; refine fz_int ?_; refine st_s ?_; refine st_0 ?_; refine wp_aCons ?_; refine wp_eV ?_; refine gv_s ?_; refine gv_s ?_; refine gv_s ?_; refine gv_0 ?_; refine nu_int ?_; refine fz_int ?_; refine st_s ?_; refine st_s ?_; refine st_s ?_; refine st_0 ?_; refine wp_aCons ?_; refine wp_eV ?_; refine gv_s ?_; refine gv_s ?_; refine gv_s ?_; refine gv_s ?_; refine gv_0 ?_; refine nu_str ?_; refine fz_str ?_; refine st_s ?_; refine st_s ?_; refine st_s ?_; refine st_s ?_; refine st_0 ?_; refine wp_aCons ?_; refine wp_eBin ?_; refine wp_eLst ?_; refine wp_aCons ?_; refine wp_eC ?_; refine wp_aCons ?_; refine wp_eC ?_; refine wp_aCons ?_; refine wp_eC ?_; refine wp_aCons ?_; refine wp_eC ?_; refine wp_aNil ?_; refine len_ok (by with_unfolding_all rfl) ?_; refine wp_eBin ?_; refine wp_eIxW ?_; refine gv_0 ?_; refine nu_lst ?_; refine wp_eC ?_; refine gv_0 ?_; refine nu_lst ?_; refine o_ixIL (by omega) (by omega) ?_; refine br_isO (by with_unfolding_all rfl) ?_; refine wp_eC ?_; refine o_mod (by omega) ?_))
        refine ix4 (Q := isS) (by omega) ⟨_, rfl, .inl rfl⟩ ⟨_, rfl, .inr (.inl rfl)⟩ ⟨_, rfl, .inr (.inr (.inl rfl))⟩ ⟨_, rfl, .inr (.inr (.inr rfl))⟩ ?_
        rintro _ ⟨s, rfl, hs⟩
        (with_reducible (refine wp_aNil ?_; refine len_ok (by with_unfolding_all rfl) ?_; refine mkt_t (by with_unfolding_all rfl) ?_; refine endP_rt (by with_unfolding_all rfl) ?_))
        exact ⟨_, _, _, _, rfl, rfl, hr1, .inr (.inr (.inl ⟨rfl, rfl⟩)), hs⟩
      · have hst := strB_eq (i := 1) (by omega)
        have hln := str_len (i := 1) (by omega)
        (with_reducible (refine o_ix (by with_unfolding_all rfl) ?_; refine st_s ?_; refine st_s ?_; refine st_s ?_; refine st_0 ?_; refine sq_nx ?_; refine wp_sSeq ?_; refine wp_sSet ?_; refine wp_eBin ?_; refine wp_eLst ?_; refine wp_aCons ?_; refine wp_eC ?_; refine wp_aCons ?_; refine wp_eBin ?_; refine wp_eC ?_; refine wp_eB ?_; refine wp_aCons ?_; refine wp_eTk ?_; refine gv_s ?_; refine gv_s ?_; refine gv_s ?_; refine gv_0 ?_; refine nu_int ?_; refine st_s ?_; refine st_s ?_; refine st_s ?_; refine st_0 ?_; refine wp_aNil ?_; refine opt_of (by assumption) ?_; refine pbk_s ?_; refine st_s ?_; refine st_s ?_; refine st_s ?_; refine st_0 ?_; refine pbk_0 ?_; refine o_addSS (by omega) ?_; refine wp_aCons ?_; refine wp_eC ?_; refine wp_aCons ?_; refine wp_eC ?_; refine wp_aCons ?_; refine wp_eC ?_; refine wp_aCons ?_; refine wp_eBin ?_; refine wp_eC ?_; refine wp_eB ?_; refine wp_aCons ?_; refine wp_eTk ?_; refine gv_s ?_; refine gv_s ?_; refine gv_s ?_; refine gv_0 ?_; refine nu_int ?_; refine st_s ?_; refine st_s ?_; refine st_s ?_; refine st_0 ?_; refine wp_aNil ?_; refine opt_of (by assumption) ?_; refine pbk_s ?_; refine st_s ?_; refine st_s ?_; refine st_s ?_; refine st_0 ?_; refine pbk_0 ?_; refine o_addSS (by omega) ?_; refine wp_aNil ?_; refine len_ok (by with_unfolding_all rfl) ?_; refine wp_eV ?_; refine gv_s ?_; refine gv_s ?_; refine gv_0 ?_; refine nu_int ?_; refine fz_int ?_; refine st_s ?_; refine st_s ?_; refine st_0 ?_; refine o_ix (by with_unfolding_all rfl) ?_; refine st_s ?_; refine st_s ?_; refine st_s ?_; refine st_s ?_; refine st_0 ?_; refine sq_nx ?_; refine wp_sRt ?_; refine wp_eTup ?_; refine wp_aCons ?_; refine wp_eV ?_; refine gv_s ?_; refine gv_0 ?_; refine nu_int ?_; refine fz_int ?_; refine st_s ?_; refine st_0 ?_; refine wp_aCons ?_; refine wp_eV ?_; refine gv_s ?_; refine gv_s ?_; refine gv_s ?_; refine gv_0 ?_; refine nu_int ?_; refine fz_int ?_; refine st_s ?_; refine st_s ?_; refine st_s ?_; refine st_0 ?_; refine wp_aCons ?_; refine wp_eV ?_; refine gv_s ?_; refine gv_s ?_; refine gv_s ?_; refine gv_s ?_; refine gv_0 ?_; refine nu_str ?_; refine fz_str ?_; refine st_s ?_; refine st_s ?_; refine st_s ?_; refine st_s ?_; refine st_0 ?_; refine wp_aCons ?_; refine wp_eBin ?_; refine wp_eLst ?_; refine wp_aCons ?_; refine wp_eC ?_; refine wp_aCons ?_; refine wp_eC ?_; refine wp_aCons ?_; refine wp_eC ?_; refine wp_aCons ?_; refine wp_eC ?_; refine wp_aNil ?_; refine len_ok (by with_unfolding_all rfl) ?_; refine wp_eBin ?_; refine wp_eIxW ?_; refine gv_0 ?_; refine nu_lst ?_; refine wp_eC ?_; refine gv_0 ?_; refine nu_lst ?_; refine o_ixIL (by omega) (by omega) ?_; refine br_isO (by with_unfolding_all rfl) ?_; refine wp_eC ?_; refine o_mod (by omega) ?_))
        refine ix4 (Q := isS) (by omega) ⟨_, rfl, .inl rfl⟩ ⟨_, rfl, .inr (.inl rfl)⟩ ⟨_, rfl, .inr (.inr (.inl rfl))⟩ ⟨_, rfl, .inr (.inr (.inr rfl))⟩ ?_
        rintro _ ⟨s, rfl, hs⟩
        (with_reducible (refine wp_aNil ?_; refine len_ok (by with_unfolding_all rfl) ?_; refine mkt_t (by with_unfolding_all rfl) ?_; refine endP_rt (by with_unfolding_all rfl) ?_))
        exact ⟨_, _, _, _, rfl, rfl, hr1, .inl ⟨rfl, rfl⟩, hs⟩
      · have hst := strB_eq (i := 2 + row.getD (2 : Int).toNat 0 % 999) (by omega)
        have hln := str_len (i := 2 + row.getD (2 : Int).toNat 0 % 999) (by omega)
        (with_reducible (refine o_ix (by with_unfolding_all rfl) ?_; refine st_s ?_; refine st_s ?_; refine st_s ?_; refine st_0 ?_; refine sq_nx ?_; refine wp_sSeq ?_; refine wp_sSet ?_; refine wp_eBin ?_; refine wp_eLst ?_; refine wp_aCons ?_; refine wp_eC ?_; refine wp_aCons ?_; refine wp_eBin ?_; refine wp_eC ?_; refine wp_eB ?_; refine wp_aCons ?_; refine wp_eTk ?_; refine gv_s ?_; refine gv_s ?_; refine gv_s ?_; refine gv_0 ?_; refine nu_int ?_; refine st_s ?_; refine st_s ?_; refine st_s ?_; refine st_0 ?_; refine wp_aNil ?_; refine opt_of (by assumption) ?_; refine pbk_s ?_; refine st_s ?_; refine st_s ?_; refine st_s ?_; refine st_0 ?_; refine pbk_0 ?_; refine o_addSS (by omega) ?_; refine wp_aCons ?_; refine wp_eC ?_; refine wp_aCons ?_; refine wp_eC ?_; refine wp_aCons ?_; refine wp_eC ?_; refine wp_aCons ?_; refine wp_eBin ?_; refine wp_eC ?_; refine wp_eB ?_; refine wp_aCons ?_; refine wp_eTk ?_; refine gv_s ?_; refine gv_s ?_; refine gv_s ?_; refine gv_0 ?_; refine nu_int ?_; refine st_s ?_; refine st_s ?_; refine st_s ?_; refine st_0 ?_; refine wp_aNil ?_; refine opt_of (by assumption) ?_; refine pbk_s ?_; refine st_s ?_; refine st_s ?_; refine st_s ?_; refine st_0 ?_; refine pbk_0 ?_; refine o_addSS (by omega) ?_; refine wp_aNil ?_; refine len_ok (by with_unfolding_all rfl) ?_; refine wp_eV ?_; refine gv_s ?_; refine gv_s ?_; refine gv_0 ?_; refine nu_int ?_; refine fz_int ?_; refine st_s ?_; refine st_s ?_; refine st_0 ?_; refine o_ix (by with_unfolding_all rfl) ?_; refine st_s ?_; refine st_s ?_; refine st_s ?_; refine st_s ?_; refine st_0 ?_; refine sq_nx ?_; refine wp_sRt ?_; refine wp_eTup ?_; refine wp_aCons ?_; refine wp_eV ?_; refine gv_s ?_; refine gv_0 ?_; refine nu_int ?_; refine fz_int ?_; refine st_s ?_; refine st_0 ?_; refine wp_aCons ?_; refine wp_eV ?_; refine gv_s ?_; refine gv_s ?_; refine gv_s ?_; refine gv_0 ?_; refine nu_int ?_; refine fz_int ?_; refine st_s ?_; refine st_s ?_; refine st_s ?_; refine st_0 ?_; refine wp_aCons ?_; refine wp_eV ?_; refine gv_s ?_; refine gv_s ?_; refine gv_s ?_; refine gv_s ?_; refine gv_0 ?_; refine nu_str ?_; refine fz_str ?_; refine st_s ?_; refine st_s ?_; refine st_s ?_; refine st_s ?_; refine st_0 ?_; refine wp_aCons ?_; refine wp_eBin ?_; refine wp_eLst ?_; refine wp_aCons ?_; refine wp_eC ?_; refine wp_aCons ?_; refine wp_eC ?_; refine wp_aCons ?_; refine wp_eC ?_; refine wp_aCons ?_; refine wp_eC ?_; refine wp_aNil ?_; refine len_ok (by with_unfolding_all rfl) ?_; refine wp_eBin ?_; refine wp_eIxW ?_; refine gv_0 ?_; refine nu_lst ?_; refine wp_eC ?_; refine gv_0 ?_; refine nu_lst ?_; refine o_ixIL (by omega) (by omega) ?_; refine br_isO (by with_unfolding_all rfl) ?_; refine wp_eC ?_; refine o_mod (by omega) ?_))
        refine ix4 (Q := isS) (by omega) ⟨_, rfl, .inl rfl⟩ ⟨_, rfl, .inr (.inl rfl)⟩ ⟨_, rfl, .inr (.inr (.inl rfl))⟩ ⟨_, rfl, .inr (.inr (.inr rfl))⟩ ?_
        rintro _ ⟨s, rfl, hs⟩
        (with_reducible (refine wp_aNil ?_; refine len_ok (by with_unfolding_all rfl) ?_; refine mkt_t (by with_unfolding_all rfl) ?_; refine endP_rt (by with_unfolding_all rfl) ?_))
        exact ⟨_, _, _, _, rfl, rfl, hr1, grp_every (by omega), hs⟩)
  exact ⟨r, g, a, s, h, hh⟩
theorem life_drawn_ok (row : List Int) (hr : row.length = 14) : ∃ t rate : Int, F_f_law_life_drawn [.lst (row.map D.int)] = .ok (.tup [.int t, .int rate]) [] ∧ (1 ≤ rate ∧ rate ≤ 1000) ∧ 0 ≤ t ∧ t ≤ 1001 / rate - 1 := by
  obtain ⟨r_, ps, h, t, rate, rfl, rfl, hh⟩ := def_ex (b := B_f_law_life_drawn) (nl := 3) (mk := [false]) (ds := [.lst (row.map D.int)]) (env := [.lst (row.map D.int), .un, .un, .un]) (fun r_ ps => ∃ t rate : Int, r_ = .tup [.int t, .int rate] ∧ ps = [] ∧ (1 ≤ rate ∧ rate ≤ 1000) ∧ 0 ≤ t ∧ t ≤ 1001 / rate - 1) rfl (by
    unfold B_f_law_life_drawn
    (with_reducible (refine wp_sSeq ?_; refine wp_sSet ?_; refine wp_eBin ?_; refine wp_eC ?_; refine wp_eBin ?_; refine wp_eIxW ?_; refine gv_0 ?_; refine nu_lst ?_; refine wp_eC ?_; refine gv_0 ?_; refine nu_lst ?_; refine o_ixIL (by omega) (by omega) ?_; refine br_isO (by with_unfolding_all rfl) ?_; refine wp_eC ?_; refine o_mod (by omega) ?_; refine o_add ?_; refine st_s ?_; refine st_0 ?_; refine sq_nx ?_))
    refine wp_cut (fun e => ∃ r : Int, (1 ≤ r ∧ r ≤ 1000) ∧ e = [.lst (row.map D.int), .int r, .un, .un]) ?_ ?_
    · (with_reducible (refine wp_sIf ?_; refine wp_qB ?_; refine wp_eBin ?_; refine wp_eBin ?_; refine wp_eIxW ?_; refine gv_0 ?_; refine nu_lst ?_; refine wp_eC ?_; refine gv_0 ?_; refine nu_lst ?_; refine o_ixIL (by omega) (by omega) ?_; refine br_isO (by with_unfolding_all rfl) ?_; refine wp_eC ?_; refine o_mod (by omega) ?_; refine wp_eC ?_; refine o_eqI ?_; refine o_toB ?_))
      (focus (refine br_d (fun h => ?_) (fun h => ?_); rotate_left; (with_reducible (refine wp_sNx ?_; refine ⟨by with_unfolding_all rfl, ?_⟩)); rotate_left; (with_reducible (refine wp_sSet ?_; refine wp_eBin ?_; refine wp_eC ?_; refine wp_eBin ?_; refine wp_eIxW ?_; refine gv_0 ?_; refine nu_lst ?_; refine wp_eC ?_; refine gv_0 ?_; refine nu_lst ?_; refine o_ixIL (by omega) (by omega) ?_; refine br_isO (by with_unfolding_all rfl) ?_; refine wp_eC ?_; refine o_mod (by omega) ?_; refine o_add ?_; refine st_s ?_; refine st_0 ?_; refine ⟨by with_unfolding_all rfl, ?_⟩))))
      · exact ⟨_, by omega, rfl⟩
      · exact ⟨_, by omega, rfl⟩
    · rintro e ⟨r0, hr0, rfl⟩
      refine wp_cut (fun e => ∃ r : Int, (1 ≤ r ∧ r ≤ 1000) ∧ e = [.lst (row.map D.int), .int r, .un, .un]) ?_ ?_
      · (with_reducible (refine wp_sIf ?_; refine wp_qB ?_; refine wp_eBin ?_; refine wp_eBin ?_; refine wp_eIxW ?_; refine gv_0 ?_; refine nu_lst ?_; refine wp_eC ?_; refine gv_0 ?_; refine nu_lst ?_; refine o_ixIL (by omega) (by omega) ?_; refine br_isO (by with_unfolding_all rfl) ?_; refine wp_eC ?_; refine o_mod (by omega) ?_; refine wp_eC ?_; refine o_eqI ?_; refine o_toB ?_))
        (focus (refine br_d (fun h => ?_) (fun h => ?_); rotate_left; (with_reducible (refine wp_sNx ?_; refine ⟨by with_unfolding_all rfl, ?_⟩)); rotate_left; (with_reducible (refine wp_sSet ?_; refine wp_eBin ?_; refine wp_eLst ?_; refine wp_aCons ?_; refine wp_eC ?_; refine wp_aCons ?_; refine wp_eC ?_; refine wp_aCons ?_; refine wp_eC ?_; refine wp_aCons ?_; refine wp_eC ?_; refine wp_aCons ?_; refine wp_eC ?_; refine wp_aCons ?_; refine wp_eC ?_; refine wp_aCons ?_; refine wp_eC ?_; refine wp_aNil ?_; refine len_ok (by with_unfolding_all rfl) ?_; refine wp_eBin ?_; refine wp_eIxW ?_; refine gv_0 ?_; refine nu_lst ?_; refine wp_eC ?_; refine gv_0 ?_; refine nu_lst ?_; refine o_ixIL (by omega) (by omega) ?_; refine br_isO (by with_unfolding_all rfl) ?_; refine wp_eC ?_; refine o_mod (by omega) ?_))))
        · obtain ⟨dn, hmem, hix, -⟩ := ix_lit (l := [.int 1, .int 7, .int 11, .int 13, .int 77, .int 91, .int 143]) (x := row.getD (5 : Int).toNat 0 % 7) (by omega) (by simp; omega)
          refine opt_of hix ?_
          have : ∃ z : Int, dn = .int z ∧ 1 ≤ z ∧ z ≤ 1000 := by
            simp only [List.mem_cons, List.not_mem_nil, or_false] at hmem
            rcases hmem with rfl | rfl | rfl | rfl | rfl | rfl | rfl <;> exact ⟨_, rfl, by decide, by decide⟩
          obtain ⟨z, rfl, hz⟩ := this
          (with_reducible (refine st_s ?_; refine st_0 ?_; refine ⟨by with_unfolding_all rfl, ?_⟩))
          exact ⟨_, hz, rfl⟩
        · exact ⟨_, hr0, rfl⟩
      · rintro e ⟨rate, hra, rfl⟩
        have hH : 0 ≤ 1001 / rate - 1 ∧ 1001 / rate - 1 ≤ 1000 := by
          have h1 : 1 ≤ 1001 / rate := Int.le_ediv_of_mul_le (by omega) (by omega)
          have h2 : 1001 / rate ≤ 1001 := Int.ediv_le_self _ (by decide)
          omega
        (with_reducible (refine wp_sSeq ?_; refine wp_sSet ?_; refine wp_eBin ?_; refine wp_eBin ?_; refine wp_eC ?_; refine wp_eV ?_; refine gv_s ?_; refine gv_0 ?_; refine nu_int ?_; refine fz_int ?_; refine st_s ?_; refine st_0 ?_; refine o_div (by omega) ?_; refine wp_eC ?_; refine o_sub ?_; refine st_s ?_; refine st_s ?_; refine st_0 ?_; refine sq_nx ?_; refine wp_sSeq ?_; refine wp_sSet ?_; refine wp_eBin ?_; refine wp_eIxW ?_; refine gv_0 ?_; refine nu_lst ?_; refine wp_eC ?_; refine gv_0 ?_; refine nu_lst ?_; refine o_ixIL (by omega) (by omega) ?_; refine br_isO (by with_unfolding_all rfl) ?_; refine wp_eBin ?_; refine wp_eB ?_; refine wp_aCons ?_; refine wp_eTk ?_; refine gv_s ?_; refine gv_s ?_; refine gv_0 ?_; refine nu_int ?_; refine st_s ?_; refine st_s ?_; refine st_0 ?_; refine wp_aCons ?_; refine wp_eC ?_; refine wp_aNil ?_; refine o_minB ?_; refine pbk_s ?_; refine st_s ?_; refine st_s ?_; refine st_0 ?_; refine pbk_n ?_; refine pbk_0 ?_; refine wp_eC ?_; refine o_add ?_; refine o_mod (by omega) ?_; refine st_s ?_; refine st_s ?_; refine st_s ?_; refine st_0 ?_; refine sq_nx ?_))
        generalize hHd : 1001 / rate - 1 = H at hH ⊢
        have hmn : 0 ≤ (if 50 < H then 50 else H) ∧ (if 50 < H then 50 else H) ≤ H := by split <;> omega
        (skip)
        generalize hmd : (if 50 < H then 50 else H) = m at hmn
        refine wp_cut (fun e => ∃ t : Int, (0 ≤ t ∧ t ≤ H) ∧ e = [.lst (row.map D.int), .int rate, .int H, .int t]) ?_ ?_
        · have p1 := Int.emod_nonneg (row.getD (7 : Int).toNat 0) (show m + 1 ≠ 0 by omega)
          have p2 := Int.emod_lt_of_pos (row.getD (7 : Int).toNat 0) (show 0 < m + 1 by omega)
          have p3 := Int.emod_nonneg (row.getD (7 : Int).toNat 0) (show H + 1 ≠ 0 by omega)
          have p4 := Int.emod_lt_of_pos (row.getD (7 : Int).toNat 0) (show 0 < H + 1 by omega)
          (with_reducible (refine wp_sIf ?_; refine wp_qB ?_; refine wp_eBin ?_; refine wp_eBin ?_; refine wp_eIxW ?_; refine gv_0 ?_; refine nu_lst ?_; refine wp_eC ?_; refine gv_0 ?_; refine nu_lst ?_; refine o_ixIL (by omega) (by omega) ?_; refine br_isO (by with_unfolding_all rfl) ?_; refine wp_eC ?_; refine o_mod (by omega) ?_; refine wp_eC ?_; refine o_eqI ?_; refine o_toB ?_))
          (focus (refine br_d (fun h => ?_) (fun h => ?_); rotate_left; (with_reducible (refine wp_sNx ?_; refine ⟨by with_unfolding_all rfl, ?_⟩)); rotate_left; (with_reducible (refine wp_sSet ?_; refine wp_eBin ?_; refine wp_eIxW ?_; refine gv_0 ?_; refine nu_lst ?_; refine wp_eC ?_; refine gv_0 ?_; refine nu_lst ?_; refine o_ixIL (by omega) (by omega) ?_; refine br_isO (by with_unfolding_all rfl) ?_; refine wp_eBin ?_; refine wp_eV ?_; refine gv_s ?_; refine gv_s ?_; refine gv_0 ?_; refine nu_int ?_; refine fz_int ?_; refine st_s ?_; refine st_s ?_; refine st_0 ?_; refine wp_eC ?_; refine o_add ?_; refine o_mod (by omega) ?_; refine st_s ?_; refine st_s ?_; refine st_s ?_; refine st_0 ?_; refine ⟨by with_unfolding_all rfl, ?_⟩))))
          · exact ⟨_, ⟨p3, by omega⟩, rfl⟩
          · exact ⟨_, ⟨p1, by omega⟩, rfl⟩
        · rintro e ⟨t, ht, rfl⟩
          (with_reducible (refine wp_sSeq ?_; refine wp_sIf ?_; refine wp_qB ?_; refine wp_eBin ?_; refine wp_eBin ?_; refine wp_eIxW ?_; refine gv_0 ?_; refine nu_lst ?_; refine wp_eC ?_; refine gv_0 ?_; refine nu_lst ?_; refine o_ixIL (by omega) (by omega) ?_; refine br_isO (by with_unfolding_all rfl) ?_; refine wp_eC ?_; refine o_mod (by omega) ?_; refine wp_eC ?_; refine o_eqI ?_; refine o_toB ?_))
          (focus (refine br_d (fun h => ?_) (fun h => ?_); rotate_left; (with_reducible (refine wp_sNx ?_; refine sq_nx ?_; refine wp_sRt ?_; refine wp_eTup ?_; refine wp_aCons ?_; refine wp_eV ?_; refine gv_s ?_; refine gv_s ?_; refine gv_s ?_; refine gv_0 ?_; refine nu_int ?_; refine fz_int ?_; refine st_s ?_; refine st_s ?_; refine st_s ?_; refine st_0 ?_; refine wp_aCons ?_; refine wp_eV ?_; refine gv_s ?_; refine gv_0 ?_; refine nu_int ?_; refine fz_int ?_; refine st_s ?_; refine st_0 ?_; refine wp_aNil ?_; refine len_ok (by with_unfolding_all rfl) ?_; refine mkt_t (by with_unfolding_all rfl) ?_; refine endP_rt (by with_unfolding_all rfl) ?_)); rotate_left; (with_reducible (refine wp_sSet ?_; refine wp_eV ?_; refine gv_s ?_; refine gv_s ?_; refine gv_0 ?_; refine nu_int ?_; refine fz_int ?_; refine st_s ?_; refine st_s ?_; refine st_0 ?_; refine st_s ?_; refine st_s ?_; refine st_s ?_; refine st_0 ?_; refine sq_nx ?_; refine wp_sRt ?_; refine wp_eTup ?_; refine wp_aCons ?_; refine wp_eV ?_; refine gv_s ?_; refine gv_s ?_; refine gv_s ?_; refine gv_0 ?_; refine nu_int ?_; refine fz_int ?_; refine st_s ?_; refine st_s ?_; refine st_s ?_; refine st_0 ?_; refine wp_aCons ?_; refine wp_eV ?_; refine gv_s ?_; refine gv_0 ?_; refine nu_int ?_; refine fz_int ?_; refine st_s ?_; refine st_0 ?_; refine wp_aNil ?_; refine len_ok (by with_unfolding_all rfl) ?_; refine mkt_t (by with_unfolding_all rfl) ?_; refine endP_rt (by with_unfolding_all rfl) ?_))))
          · exact ⟨_, _, rfl, rfl, hra, by omega, by omega⟩
          · exact ⟨_, _, rfl, rfl, hra, by omega, by omega⟩)
  exact ⟨t, rate, h, hh⟩
end Lw
namespace Lw
open PySem Pm
theorem side_ok {w r g t rate j N : Int} {a s : Str} {b : Bool} (hw : 1 ≤ w ∧ w ≤ 1000) (hr : 1 ≤ r ∧ r ≤ 1000) (hg : grp a g) (hs : four s) (hra : 1 ≤ rate ∧ rate ≤ 1000) (ht : 0 ≤ t ∧ t ≤ 1001 / rate - 1) (hj : 0 ≤ j ∧ j ≤ 1000) (hN : 1 ≤ N ∧ N ≤ 2000000)
    (hb : decide (ls (isRe w s) w r a g (rate * (t + 1) - 1) j ≤ N) = b) : F_f_law_side [.int w, drD r g a s, .int t, .int rate, .int j, .int N, .bl b] = .ok (.bl true) [] := by
  have hH : 0 ≤ 1001 / rate - 1 ∧ 1001 / rate - 1 ≤ 1000 := by
    have h1 : 1 ≤ 1001 / rate := Int.le_ediv_of_mul_le (by omega) (by omega)
    have h2 : 1001 / rate ≤ 1001 := Int.ediv_le_self _ (by decide)
    omega
  have hk : 0 ≤ rate * (t + 1) - 1 ∧ rate * (t + 1) - 1 ≤ 1000 := ⟨by have := rate_ge hra.1 ht.1; omega, by have := rate_le hra.1 ht.2; omega⟩
  have gp := grp_pos hg
  refine def_ok (env := [.int w, .tup [.int r, .int g, .str a, .str s], .int t, .int rate, .int j, .int N, .bl b, .un, .un, .un, .un, .un, .un, .un, .un]) rfl ?_
  unfold B_f_law_side
  (with_reducible (refine wp_sSeq ?_; refine wp_sAsg ?_; refine wp_eV ?_; refine gv_s ?_; refine gv_0 ?_; refine nu_tup ?_; refine fz_tup ?_; refine st_s ?_; refine st_0 ?_; refine wp_gT ?_; refine sq_s (by with_unfolding_all rfl) ?_; refine len_eq (by with_unfolding_all rfl) ?_; refine wp_gsCons ?_; refine wp_gN ?_; refine st_s ?_; refine st_s ?_; refine st_s ?_; refine st_s ?_; refine st_s ?_; refine st_s ?_; refine st_s ?_; refine st_0 ?_; refine wp_gsCons ?_; refine wp_gN ?_; refine st_s ?_; refine st_s ?_; refine st_s ?_; refine st_s ?_; refine st_s ?_; refine st_s ?_; refine st_s ?_; refine st_s ?_; refine st_0 ?_; refine wp_gsCons ?_; refine wp_gN ?_; refine st_s ?_; refine st_s ?_; refine st_s ?_; refine st_s ?_; refine st_s ?_; refine st_s ?_; refine st_s ?_; refine st_s ?_; refine st_s ?_; refine st_0 ?_; refine wp_gsCons ?_; refine wp_gN ?_; refine st_s ?_; refine st_s ?_; refine st_s ?_; refine st_s ?_; refine st_s ?_; refine st_s ?_; refine st_s ?_; refine st_s ?_; refine st_s ?_; refine st_s ?_; refine st_0 ?_; refine wp_gsNil ?_; refine sq_nx ?_; refine wp_sSeq ?_; refine wp_sSet ?_; refine wp_eMk ?_; refine wp_aCons ?_; refine wp_eV ?_; refine gv_0 ?_; refine nu_int ?_; refine fz_int ?_; refine st_0 ?_; refine wp_aCons ?_; refine wp_eV ?_; refine gv_s ?_; refine gv_s ?_; refine gv_s ?_; refine gv_s ?_; refine gv_s ?_; refine gv_s ?_; refine gv_s ?_; refine gv_0 ?_; refine nu_int ?_; refine fz_int ?_; refine st_s ?_; refine st_s ?_; refine st_s ?_; refine st_s ?_; refine st_s ?_; refine st_s ?_; refine st_s ?_; refine st_0 ?_; refine wp_aCons ?_; refine wp_eV ?_; refine gv_s ?_; refine gv_s ?_; refine gv_s ?_; refine gv_s ?_; refine gv_s ?_; refine gv_s ?_; refine gv_s ?_; refine gv_s ?_; refine gv_s ?_; refine gv_0 ?_; refine nu_str ?_; refine fz_str ?_; refine st_s ?_; refine st_s ?_; refine st_s ?_; refine st_s ?_; refine st_s ?_; refine st_s ?_; refine st_s ?_; refine st_s ?_; refine st_s ?_; refine st_0 ?_; refine wp_aCons ?_; refine wp_eV ?_; refine gv_s ?_; refine gv_s ?_; refine gv_s ?_; refine gv_s ?_; refine gv_s ?_; refine gv_s ?_; refine gv_s ?_; refine gv_s ?_; refine gv_s ?_; refine gv_s ?_; refine gv_0 ?_; refine nu_str ?_; refine fz_str ?_; refine st_s ?_; refine st_s ?_; refine st_s ?_; refine st_s ?_; refine st_s ?_; refine st_s ?_; refine st_s ?_; refine st_s ?_; refine st_s ?_; refine st_s ?_; refine st_0 ?_; refine wp_aNil ?_))
  refine fF_of (rule_ok hw hr hg hs) ?_
  (with_reducible (refine mkP_ok ?_; refine pbc_n ?_; refine pbc_n ?_; refine pbc_n ?_; refine pbc_n ?_; refine pbc_0 ?_; refine st_s ?_; refine st_s ?_; refine st_s ?_; refine st_s ?_; refine st_s ?_; refine st_s ?_; refine st_s ?_; refine st_s ?_; refine st_s ?_; refine st_s ?_; refine st_s ?_; refine st_0 ?_; refine sq_nx ?_; refine wp_sSeq ?_; refine wp_sSet ?_; refine wp_eCall ?_; refine wp_aCons ?_; refine wp_eV ?_; refine gv_0 ?_; refine nu_int ?_; refine fz_int ?_; refine st_0 ?_; refine wp_aCons ?_; refine wp_eV ?_; refine gv_s ?_; refine gv_s ?_; refine gv_s ?_; refine gv_s ?_; refine gv_s ?_; refine gv_s ?_; refine gv_s ?_; refine gv_0 ?_; refine nu_int ?_; refine fz_int ?_; refine st_s ?_; refine st_s ?_; refine st_s ?_; refine st_s ?_; refine st_s ?_; refine st_s ?_; refine st_s ?_; refine st_0 ?_; refine wp_aCons ?_; refine wp_eV ?_; refine gv_s ?_; refine gv_s ?_; refine gv_s ?_; refine gv_s ?_; refine gv_s ?_; refine gv_s ?_; refine gv_s ?_; refine gv_s ?_; refine gv_0 ?_; refine nu_int ?_; refine fz_int ?_; refine st_s ?_; refine st_s ?_; refine st_s ?_; refine st_s ?_; refine st_s ?_; refine st_s ?_; refine st_s ?_; refine st_s ?_; refine st_0 ?_; refine wp_aCons ?_; refine wp_eV ?_; refine gv_s ?_; refine gv_s ?_; refine gv_s ?_; refine gv_s ?_; refine gv_s ?_; refine gv_s ?_; refine gv_s ?_; refine gv_s ?_; refine gv_s ?_; refine gv_0 ?_; refine nu_str ?_; refine fz_str ?_; refine st_s ?_; refine st_s ?_; refine st_s ?_; refine st_s ?_; refine st_s ?_; refine st_s ?_; refine st_s ?_; refine st_s ?_; refine st_s ?_; refine st_0 ?_; refine wp_aCons ?_; refine wp_eV ?_; refine gv_s ?_; refine gv_s ?_; refine gv_s ?_; refine gv_s ?_; refine gv_s ?_; refine gv_s ?_; refine gv_s ?_; refine gv_s ?_; refine gv_s ?_; refine gv_s ?_; refine gv_0 ?_; refine nu_str ?_; refine fz_str ?_; refine st_s ?_; refine st_s ?_; refine st_s ?_; refine st_s ?_; refine st_s ?_; refine st_s ?_; refine st_s ?_; refine st_s ?_; refine st_s ?_; refine st_s ?_; refine st_0 ?_; refine wp_aCons ?_; refine wp_eBin ?_; refine wp_eBin ?_; refine wp_eV ?_; refine gv_s ?_; refine gv_s ?_; refine gv_s ?_; refine gv_0 ?_; refine nu_int ?_; refine fz_int ?_; refine st_s ?_; refine st_s ?_; refine st_s ?_; refine st_0 ?_; refine wp_eBin ?_; refine wp_eV ?_; refine gv_s ?_; refine gv_s ?_; refine gv_0 ?_; refine nu_int ?_; refine fz_int ?_; refine st_s ?_; refine st_s ?_; refine st_0 ?_; refine wp_eC ?_; refine o_add ?_; refine o_mul (by omega) ?_; refine wp_eC ?_; refine o_sub ?_; refine wp_aCons ?_; refine wp_eV ?_; refine gv_s ?_; refine gv_s ?_; refine gv_s ?_; refine gv_s ?_; refine gv_0 ?_; refine nu_int ?_; refine fz_int ?_; refine st_s ?_; refine st_s ?_; refine st_s ?_; refine st_s ?_; refine st_0 ?_; refine wp_aNil ?_))
  refine fF_of (least_law hw hr hg hs hk hj) ?_
  (with_reducible (refine pbc_n ?_; refine pbc_n ?_; refine pbc_n ?_; refine pbc_n ?_; refine pbc_n ?_; refine pbc_n ?_; refine pbc_n ?_; refine pbc_0 ?_; refine st_s ?_; refine st_s ?_; refine st_s ?_; refine st_s ?_; refine st_s ?_; refine st_s ?_; refine st_s ?_; refine st_s ?_; refine st_s ?_; refine st_s ?_; refine st_s ?_; refine st_s ?_; refine st_0 ?_; refine sq_nx ?_; refine wp_sSeq ?_; refine wp_sIf ?_; refine wp_qOr ?_; refine wp_qNot ?_; refine wp_qT ?_; refine wp_eCall ?_; refine wp_aCons ?_; refine wp_eCall ?_; refine wp_aCons ?_; refine wp_eV ?_; refine gv_s ?_; refine gv_s ?_; refine gv_s ?_; refine gv_s ?_; refine gv_s ?_; refine gv_s ?_; refine gv_s ?_; refine gv_s ?_; refine gv_s ?_; refine gv_s ?_; refine gv_s ?_; refine gv_0 ?_; refine nu_oins ?_; refine fz_oins ?_; refine st_s ?_; refine st_s ?_; refine st_s ?_; refine st_s ?_; refine st_s ?_; refine st_s ?_; refine st_s ?_; refine st_s ?_; refine st_s ?_; refine st_s ?_; refine st_s ?_; refine st_0 ?_; refine wp_aCons ?_; refine wp_eMk ?_; refine wp_aCons ?_; refine wp_eV ?_; refine gv_s ?_; refine gv_s ?_; refine gv_0 ?_; refine nu_int ?_; refine fz_int ?_; refine st_s ?_; refine st_s ?_; refine st_0 ?_; refine wp_aCons ?_; refine wp_eV ?_; refine gv_s ?_; refine gv_s ?_; refine gv_s ?_; refine gv_0 ?_; refine nu_int ?_; refine fz_int ?_; refine st_s ?_; refine st_s ?_; refine st_s ?_; refine st_0 ?_; refine wp_aNil ?_; simp only [freezeL, freeze]))
  refine fF_of (life_ok (by omega) hra) ?_
  (with_reducible (refine mkP_ok ?_; refine pbc_n ?_; refine pbc_n ?_; refine pbc_0 ?_; refine wp_aCons ?_; refine wp_eV ?_; refine gv_s ?_; refine gv_s ?_; refine gv_s ?_; refine gv_s ?_; refine gv_0 ?_; refine nu_int ?_; refine fz_int ?_; refine st_s ?_; refine st_s ?_; refine st_s ?_; refine st_s ?_; refine st_0 ?_; refine wp_aNil ?_))
  refine fF_of (forlife_ok hs (by omega) hra hk hj (.inr rfl)) ?_
  (with_reducible (refine pbc_n ?_; refine pbc_n ?_; refine pbc_n ?_; refine pbc_0 ?_; refine wp_aCons ?_; refine wp_eV ?_; refine gv_s ?_; refine gv_s ?_; refine gv_s ?_; refine gv_s ?_; refine gv_s ?_; refine gv_s ?_; refine gv_s ?_; refine gv_s ?_; refine gv_s ?_; refine gv_s ?_; refine gv_s ?_; refine gv_s ?_; refine gv_0 ?_; refine nu_int ?_; refine fz_int ?_; refine st_s ?_; refine st_s ?_; refine st_s ?_; refine st_s ?_; refine st_s ?_; refine st_s ?_; refine st_s ?_; refine st_s ?_; refine st_s ?_; refine st_s ?_; refine st_s ?_; refine st_s ?_; refine st_0 ?_; refine wp_aNil ?_))
  refine fF_of (like_int 7) ?_
  (with_reducible (refine pbc_n ?_; refine pbc_n ?_; refine pbc_0 ?_; refine o_truB ?_; refine br_n ?_; refine br_dT (by omega) ?_; refine wp_qB ?_; refine wp_eBin ?_; refine wp_eBin ?_; refine wp_eV ?_; refine gv_s ?_; refine gv_s ?_; refine gv_s ?_; refine gv_s ?_; refine gv_s ?_; refine gv_s ?_; refine gv_s ?_; refine gv_s ?_; refine gv_s ?_; refine gv_s ?_; refine gv_s ?_; refine gv_s ?_; refine gv_0 ?_; refine nu_int ?_; refine fz_int ?_; refine st_s ?_; refine st_s ?_; refine st_s ?_; refine st_s ?_; refine st_s ?_; refine st_s ?_; refine st_s ?_; refine st_s ?_; refine st_s ?_; refine st_s ?_; refine st_s ?_; refine st_s ?_; refine st_0 ?_; refine wp_eV ?_; refine gv_s ?_; refine gv_s ?_; refine gv_s ?_; refine gv_s ?_; refine gv_s ?_; refine gv_0 ?_; refine nu_int ?_; refine fz_int ?_; refine st_s ?_; refine st_s ?_; refine st_s ?_; refine st_s ?_; refine st_s ?_; refine st_0 ?_; refine o_le ?_; refine wp_eV ?_; refine gv_s ?_; refine gv_s ?_; refine gv_s ?_; refine gv_s ?_; refine gv_s ?_; refine gv_s ?_; refine gv_0 ?_; refine nu_bl ?_; refine fz_bl ?_; refine st_s ?_; refine st_s ?_; refine st_s ?_; refine st_s ?_; refine st_s ?_; refine st_s ?_; refine st_0 ?_; refine o_neB ?_; refine o_toB ?_))
  refine br_eqc (c := false) (by rw [hb]; cases b <;> rfl) ?_
  (with_reducible (refine br_f ?_; refine wp_sNx ?_; refine sq_nx ?_; refine wp_sSeq ?_; refine wp_sSet ?_; refine wp_eCall ?_; refine wp_aCons ?_; refine wp_eV ?_; refine gv_0 ?_; refine nu_int ?_; refine fz_int ?_; refine st_0 ?_; refine wp_aCons ?_; refine wp_eV ?_; refine gv_s ?_; refine gv_s ?_; refine gv_s ?_; refine gv_s ?_; refine gv_s ?_; refine gv_s ?_; refine gv_s ?_; refine gv_0 ?_; refine nu_int ?_; refine fz_int ?_; refine st_s ?_; refine st_s ?_; refine st_s ?_; refine st_s ?_; refine st_s ?_; refine st_s ?_; refine st_s ?_; refine st_0 ?_; refine wp_aCons ?_; refine wp_eV ?_; refine gv_s ?_; refine gv_s ?_; refine gv_s ?_; refine gv_s ?_; refine gv_s ?_; refine gv_s ?_; refine gv_s ?_; refine gv_s ?_; refine gv_0 ?_; refine nu_int ?_; refine fz_int ?_; refine st_s ?_; refine st_s ?_; refine st_s ?_; refine st_s ?_; refine st_s ?_; refine st_s ?_; refine st_s ?_; refine st_s ?_; refine st_0 ?_; refine wp_aCons ?_; refine wp_eV ?_; refine gv_s ?_; refine gv_s ?_; refine gv_s ?_; refine gv_s ?_; refine gv_s ?_; refine gv_s ?_; refine gv_s ?_; refine gv_s ?_; refine gv_s ?_; refine gv_0 ?_; refine nu_str ?_; refine fz_str ?_; refine st_s ?_; refine st_s ?_; refine st_s ?_; refine st_s ?_; refine st_s ?_; refine st_s ?_; refine st_s ?_; refine st_s ?_; refine st_s ?_; refine st_0 ?_; refine wp_aCons ?_; refine wp_eV ?_; refine gv_s ?_; refine gv_s ?_; refine gv_s ?_; refine gv_s ?_; refine gv_s ?_; refine gv_s ?_; refine gv_s ?_; refine gv_s ?_; refine gv_s ?_; refine gv_s ?_; refine gv_0 ?_; refine nu_str ?_; refine fz_str ?_; refine st_s ?_; refine st_s ?_; refine st_s ?_; refine st_s ?_; refine st_s ?_; refine st_s ?_; refine st_s ?_; refine st_s ?_; refine st_s ?_; refine st_s ?_; refine st_0 ?_; refine wp_aCons ?_; refine wp_eV ?_; refine gv_s ?_; refine gv_s ?_; refine gv_s ?_; refine gv_0 ?_; refine nu_int ?_; refine fz_int ?_; refine st_s ?_; refine st_s ?_; refine st_s ?_; refine st_0 ?_; refine wp_aCons ?_; refine wp_eV ?_; refine gv_s ?_; refine gv_s ?_; refine gv_s ?_; refine gv_s ?_; refine gv_0 ?_; refine nu_int ?_; refine fz_int ?_; refine st_s ?_; refine st_s ?_; refine st_s ?_; refine st_s ?_; refine st_0 ?_; refine wp_aCons ?_; refine wp_eV ?_; refine gv_s ?_; refine gv_s ?_; refine gv_s ?_; refine gv_s ?_; refine gv_s ?_; refine gv_0 ?_; refine nu_int ?_; refine fz_int ?_; refine st_s ?_; refine st_s ?_; refine st_s ?_; refine st_s ?_; refine st_s ?_; refine st_0 ?_; refine wp_aNil ?_))
  obtain ⟨x, hx, sx⟩ := longest_law (N := N) hw hr hg hs hra hj
  have mono := fL_mono (w := w) (r := r) (g := g) (j := j) (rate := rate) (a := a) (s := s) hw.1 hr.1 hj.1 gp.1 hra.1 (1001 / rate - 1)
  (with_reducible (refine fF_of (by assumption) ?_; refine pbc_n ?_; refine pbc_n ?_; refine pbc_n ?_; refine pbc_n ?_; refine pbc_n ?_; refine pbc_n ?_; refine pbc_n ?_; refine pbc_n ?_; refine pbc_0 ?_; refine st_s ?_; refine st_s ?_; refine st_s ?_; refine st_s ?_; refine st_s ?_; refine st_s ?_; refine st_s ?_; refine st_s ?_; refine st_s ?_; refine st_s ?_; refine st_s ?_; refine st_s ?_; refine st_s ?_; refine st_0 ?_; refine sq_nx ?_; refine wp_sSeq ?_; refine wp_sSet ?_; refine wp_eCall ?_; refine wp_aCons ?_; refine wp_eV ?_; refine gv_s ?_; refine gv_s ?_; refine gv_s ?_; refine gv_s ?_; refine gv_s ?_; refine gv_s ?_; refine gv_s ?_; refine gv_s ?_; refine gv_s ?_; refine gv_s ?_; refine gv_s ?_; refine gv_0 ?_; refine nu_ins ?_; refine fz_ins ?_; refine st_s ?_; refine st_s ?_; refine st_s ?_; refine st_s ?_; refine st_s ?_; refine st_s ?_; refine st_s ?_; refine st_s ?_; refine st_s ?_; refine st_s ?_; refine st_s ?_; refine st_0 ?_; refine wp_aCons ?_; refine wp_eV ?_; refine gv_s ?_; refine gv_s ?_; refine gv_s ?_; refine gv_0 ?_; refine nu_int ?_; refine fz_int ?_; refine st_s ?_; refine st_s ?_; refine st_s ?_; refine st_0 ?_; refine wp_aCons ?_; refine wp_eV ?_; refine gv_s ?_; refine gv_s ?_; refine gv_s ?_; refine gv_s ?_; refine gv_0 ?_; refine nu_int ?_; refine fz_int ?_; refine st_s ?_; refine st_s ?_; refine st_s ?_; refine st_s ?_; refine st_0 ?_; refine wp_aCons ?_; refine wp_eV ?_; refine gv_s ?_; refine gv_s ?_; refine gv_s ?_; refine gv_s ?_; refine gv_s ?_; refine gv_0 ?_; refine nu_int ?_; refine fz_int ?_; refine st_s ?_; refine st_s ?_; refine st_s ?_; refine st_s ?_; refine st_s ?_; refine st_0 ?_; refine wp_aNil ?_))
  by_cases hc : N < ls (isRe w s) w r a g (rate * (0 + 1) - 1) j
  · refine fF_of (longest_no hw hr hg hs hra hj hN hc) ?_
    have x0 : x < 0 := by
      by_cases z : x < 0
      · exact z
      · have h1 : ls (isRe w s) w r a g (rate * (x + 1) - 1) j ≤ N := sx.ok (by omega)
        have h2 := mono 0 x (by omega) (by omega) sx.fhi
        omega
    have hbf : b = false := by
      rw [← hb]
      have h2 := mono 0 t (by omega) ht.1 ht.2
      exact decide_eq_false (by omega)
    subst hbf
    (with_reducible (refine pbc_n ?_; refine pbc_n ?_; refine pbc_n ?_; refine pbc_n ?_; refine pbc_0 ?_; refine st_s ?_; refine st_s ?_; refine st_s ?_; refine st_s ?_; refine st_s ?_; refine st_s ?_; refine st_s ?_; refine st_s ?_; refine st_s ?_; refine st_s ?_; refine st_s ?_; refine st_s ?_; refine st_s ?_; refine st_s ?_; refine st_0 ?_; refine sq_nx ?_; refine wp_sSeq ?_; refine wp_sIf ?_; refine wp_qB ?_; refine wp_eBin ?_; refine wp_eV ?_; refine gv_s ?_; refine gv_s ?_; refine gv_s ?_; refine gv_s ?_; refine gv_s ?_; refine gv_s ?_; refine gv_s ?_; refine gv_s ?_; refine gv_s ?_; refine gv_s ?_; refine gv_s ?_; refine gv_s ?_; refine gv_s ?_; refine gv_0 ?_; refine nu_int ?_; refine fz_int ?_; refine st_s ?_; refine st_s ?_; refine st_s ?_; refine st_s ?_; refine st_s ?_; refine st_s ?_; refine st_s ?_; refine st_s ?_; refine st_s ?_; refine st_s ?_; refine st_s ?_; refine st_s ?_; refine st_s ?_; refine st_0 ?_; refine wp_eC ?_; refine o_lt ?_; refine o_toB ?_; refine br_dT (by omega) ?_; refine wp_sRt ?_; refine wp_eAnd ?_; refine wp_eIsN ?_; refine wp_eV ?_; refine gv_s ?_; refine gv_s ?_; refine gv_s ?_; refine gv_s ?_; refine gv_s ?_; refine gv_s ?_; refine gv_s ?_; refine gv_s ?_; refine gv_s ?_; refine gv_s ?_; refine gv_s ?_; refine gv_s ?_; refine gv_s ?_; refine gv_s ?_; refine gv_0 ?_; refine nu_non ?_; refine fz_non ?_; refine st_s ?_; refine st_s ?_; refine st_s ?_; refine st_s ?_; refine st_s ?_; refine st_s ?_; refine st_s ?_; refine st_s ?_; refine st_s ?_; refine st_s ?_; refine st_s ?_; refine st_s ?_; refine st_s ?_; refine st_s ?_; refine st_0 ?_; refine o_isNn ?_; refine o_toB ?_; refine br_t ?_; refine wp_eNot ?_; refine wp_eV ?_; refine gv_s ?_; refine gv_s ?_; refine gv_s ?_; refine gv_s ?_; refine gv_s ?_; refine gv_s ?_; refine gv_0 ?_; refine nu_bl ?_; refine fz_bl ?_; refine st_s ?_; refine st_s ?_; refine st_s ?_; refine st_s ?_; refine st_s ?_; refine st_s ?_; refine st_0 ?_; refine o_toB ?_; refine sq_rt ?_; refine endF_rt (by with_unfolding_all rfl) (by with_unfolding_all rfl) ?_))
    rfl
  · obtain ⟨x2, hx2, sx2⟩ := longest_ok hw hr hg hs hra hj hN hc
    have x0 : 0 ≤ x := by
      by_cases z : 0 ≤ x
      · exact z
      · have h0 := sx.flo
        have h1 := sx.no (by omega)
        rw [show x + 1 = 0 by omega] at h1
        exact absurd h1 hc
    have sx' : Spec (fun t => ls (isRe w s) w r a g (rate * (t + 1) - 1) j) N 0 (1001 / rate - 1) x := ⟨x0, sx.fhi, fun z => sx.ok (by omega), sx.no⟩
    have e : x2 = x := Spec.uniq (fun p q h1 h2 h3 => mono p q (by omega) h2 h3) sx2 sx'
    subst e
    refine fF_of hx2 ?_
    (with_reducible (refine pbc_n ?_; refine pbc_n ?_; refine pbc_n ?_; refine pbc_n ?_; refine pbc_0 ?_; refine st_s ?_; refine st_s ?_; refine st_s ?_; refine st_s ?_; refine st_s ?_; refine st_s ?_; refine st_s ?_; refine st_s ?_; refine st_s ?_; refine st_s ?_; refine st_s ?_; refine st_s ?_; refine st_s ?_; refine st_s ?_; refine st_0 ?_; refine sq_nx ?_; refine wp_sSeq ?_; refine wp_sIf ?_; refine wp_qB ?_; refine wp_eBin ?_; refine wp_eV ?_; refine gv_s ?_; refine gv_s ?_; refine gv_s ?_; refine gv_s ?_; refine gv_s ?_; refine gv_s ?_; refine gv_s ?_; refine gv_s ?_; refine gv_s ?_; refine gv_s ?_; refine gv_s ?_; refine gv_s ?_; refine gv_s ?_; refine gv_0 ?_; refine nu_int ?_; refine fz_int ?_; refine st_s ?_; refine st_s ?_; refine st_s ?_; refine st_s ?_; refine st_s ?_; refine st_s ?_; refine st_s ?_; refine st_s ?_; refine st_s ?_; refine st_s ?_; refine st_s ?_; refine st_s ?_; refine st_s ?_; refine st_0 ?_; refine wp_eC ?_; refine o_lt ?_; refine o_toB ?_; refine br_dF (by omega) ?_; refine wp_sNx ?_; refine sq_nx ?_; refine wp_sSeq ?_; refine wp_sIf ?_; refine wp_qOr ?_; refine wp_qNot ?_; refine wp_qT ?_; refine wp_eIsi ?_; refine wp_eV ?_; refine gv_s ?_; refine gv_s ?_; refine gv_s ?_; refine gv_s ?_; refine gv_s ?_; refine gv_s ?_; refine gv_s ?_; refine gv_s ?_; refine gv_s ?_; refine gv_s ?_; refine gv_s ?_; refine gv_s ?_; refine gv_s ?_; refine gv_s ?_; refine gv_0 ?_; refine nu_oins ?_; refine fz_oins ?_; refine st_s ?_; refine st_s ?_; refine st_s ?_; refine st_s ?_; refine st_s ?_; refine st_s ?_; refine st_s ?_; refine st_s ?_; refine st_s ?_; refine st_s ?_; refine st_s ?_; refine st_s ?_; refine st_s ?_; refine st_s ?_; refine st_0 ?_; refine o_isi (by with_unfolding_all rfl) ?_; refine o_truB ?_; refine br_n ?_; refine br_t ?_; refine wp_qNot ?_; refine wp_qT ?_; refine wp_eCall ?_; refine wp_aCons ?_; refine wp_eTup ?_; refine wp_aCons ?_; refine wp_eAtW ?_; refine gv_s ?_; refine gv_s ?_; refine gv_s ?_; refine gv_s ?_; refine gv_s ?_; refine gv_s ?_; refine gv_s ?_; refine gv_s ?_; refine gv_s ?_; refine gv_s ?_; refine gv_s ?_; refine gv_s ?_; refine gv_s ?_; refine gv_s ?_; refine gv_0 ?_; refine nu_ins ?_; refine o_at (by with_unfolding_all rfl) ?_; refine br_isO (by with_unfolding_all rfl) ?_; refine wp_aCons ?_; refine wp_eAtW ?_; refine gv_s ?_; refine gv_s ?_; refine gv_s ?_; refine gv_s ?_; refine gv_s ?_; refine gv_s ?_; refine gv_s ?_; refine gv_s ?_; refine gv_s ?_; refine gv_s ?_; refine gv_s ?_; refine gv_s ?_; refine gv_s ?_; refine gv_s ?_; refine gv_0 ?_; refine nu_ins ?_; refine o_at (by with_unfolding_all rfl) ?_; refine br_isO (by with_unfolding_all rfl) ?_; refine wp_aNil ?_; refine len_ok (by with_unfolding_all rfl) ?_; refine mkt_t (by with_unfolding_all rfl) ?_; refine wp_aCons ?_; refine wp_eTup ?_; refine wp_aCons ?_; refine wp_eV ?_; refine gv_s ?_; refine gv_s ?_; refine gv_s ?_; refine gv_s ?_; refine gv_s ?_; refine gv_s ?_; refine gv_s ?_; refine gv_s ?_; refine gv_s ?_; refine gv_s ?_; refine gv_s ?_; refine gv_s ?_; refine gv_s ?_; refine gv_0 ?_; refine nu_int ?_; refine fz_int ?_; refine st_s ?_; refine st_s ?_; refine st_s ?_; refine st_s ?_; refine st_s ?_; refine st_s ?_; refine st_s ?_; refine st_s ?_; refine st_s ?_; refine st_s ?_; refine st_s ?_; refine st_s ?_; refine st_s ?_; refine st_0 ?_; refine wp_aCons ?_; refine wp_eV ?_; refine gv_s ?_; refine gv_s ?_; refine gv_s ?_; refine gv_0 ?_; refine nu_int ?_; refine fz_int ?_; refine st_s ?_; refine st_s ?_; refine st_s ?_; refine st_0 ?_; refine wp_aNil ?_; refine len_ok (by with_unfolding_all rfl) ?_; refine mkt_t (by with_unfolding_all rfl) ?_; refine wp_aNil ?_; simp only [freezeL, freeze]))
    refine fF_of (like_pair _ _) ?_
    (with_reducible (refine pbc_n ?_; refine pbc_n ?_; refine pbc_0 ?_; refine o_truB ?_; refine br_n ?_; refine br_t ?_; refine wp_sNx ?_; refine sq_nx ?_; refine wp_sRt ?_; refine wp_eBin ?_; refine wp_eBin ?_; refine wp_eV ?_; refine gv_s ?_; refine gv_s ?_; refine gv_s ?_; refine gv_s ?_; refine gv_s ?_; refine gv_s ?_; refine gv_s ?_; refine gv_s ?_; refine gv_s ?_; refine gv_s ?_; refine gv_s ?_; refine gv_s ?_; refine gv_s ?_; refine gv_0 ?_; refine nu_int ?_; refine fz_int ?_; refine st_s ?_; refine st_s ?_; refine st_s ?_; refine st_s ?_; refine st_s ?_; refine st_s ?_; refine st_s ?_; refine st_s ?_; refine st_s ?_; refine st_s ?_; refine st_s ?_; refine st_s ?_; refine st_s ?_; refine st_0 ?_; refine wp_eV ?_; refine gv_s ?_; refine gv_s ?_; refine gv_0 ?_; refine nu_int ?_; refine fz_int ?_; refine st_s ?_; refine st_s ?_; refine st_0 ?_; refine o_ge ?_; refine wp_eV ?_; refine gv_s ?_; refine gv_s ?_; refine gv_s ?_; refine gv_s ?_; refine gv_s ?_; refine gv_s ?_; refine gv_0 ?_; refine nu_bl ?_; refine fz_bl ?_; refine st_s ?_; refine st_s ?_; refine st_s ?_; refine st_s ?_; refine st_s ?_; refine st_s ?_; refine st_0 ?_; refine o_eqB ?_; refine endF_rt (by with_unfolding_all rfl) (by with_unfolding_all rfl) ?_))
    have : decide (x2 ≥ t) = b := by
      rw [← hb]
      by_cases z : t ≤ x2
      · have h1 := mono t x2 (by omega) z sx.fhi
        have h2 : ls (isRe w s) w r a g (rate * (x2 + 1) - 1) j ≤ N := sx.ok (by omega)
        rw [decide_eq_true (show x2 ≥ t from z), decide_eq_true (by omega)]
      · have h1 := mono (x2 + 1) t (by omega) (by omega) ht.2
        have h2 : N < ls (isRe w s) w r a g (rate * (x2 + 1 + 1) - 1) j := sx.no (by omega)
        rw [decide_eq_false (show ¬ x2 ≥ t from z), decide_eq_false (by omega)]
    rw [this]
    cases b <;> rfl
end Lw
namespace Lw
open PySem Pm
theorem ls_range {re : Bool} {w r g k j : Int} {a : Str} (hw : 1 ≤ w ∧ w ≤ 1000) (hr : 1 ≤ r ∧ r ≤ 1000) (hg : 0 ≤ g ∧ g ≤ 1000) (hk : 0 ≤ k ∧ k ≤ 1000) (hj : 0 ≤ j ∧ j ≤ 1000) : 2 ≤ ls re w r a g k j ∧ ls re w r a g k j ≤ 1900000 := by
  have h0 := gr_nn (re := re) (a := a) hw.1 hr.1 hk.1 hj.1 hg.1
  have h1 : gr re w r a g k j ≤ 1003000 := by
    have g1 := gn_pos (re := re) hw.1 hr.1 hk.1
    have g2 : gn re w r k ≤ 1000 := by unfold gn mn min3; (repeat' split) <;> omega
    unfold gr
    split
    · omega
    · split
      · have := Int.mul_le_mul hj.2 hw.2 (by omega) (by omega); omega
      · split
        · have := Int.mul_le_mul hj.2 g2 (by omega) (by omega); omega
        · have m1 : mn (gn re w r k - 1 + g) w ≤ 1000 := by unfold mn; split <;> omega
          have m2 : 0 ≤ mn g w ∧ mn g w ≤ 1000 := by unfold mn; split <;> omega
          have := Int.mul_le_mul (show j - 1 ≤ 1000 by omega) m2.2 m2.1 (by omega)
          omega
  unfold ls mx
  split <;> split <;> omega
theorem fields_ok {k j : Int} : F_f_Channel_fields [.ins 1 [.int k, .int j]] = .ok (.tup [.int k, .int j]) [.ins 1 [.int k, .int j]] := by
  refine def_ok (env := [.ins 1 [.int k, .int j]]) rfl ?_
  unfold B_f_Channel_fields
  (with_reducible (refine wp_sRt ?_; refine wp_eTup ?_; refine wp_aCons ?_; refine wp_eAtW ?_; refine gv_0 ?_; refine nu_ins ?_; refine o_at (by with_unfolding_all rfl) ?_; refine br_isO (by with_unfolding_all rfl) ?_; refine wp_aCons ?_; refine wp_eAtW ?_; refine gv_0 ?_; refine nu_ins ?_; refine o_at (by with_unfolding_all rfl) ?_; refine br_isO (by with_unfolding_all rfl) ?_; refine wp_aNil ?_; refine len_ok (by with_unfolding_all rfl) ?_; refine mkt_t (by with_unfolding_all rfl) ?_; refine endF_rt (by with_unfolding_all rfl) (by with_unfolding_all rfl) ?_))
  rfl
theorem law_true (ns : List Int) (h : ns.length ≤ 63) : F_f_law [intsD ns] = .ok (.bl true) [] := by
  refine def_ok (env := [.lst (ns.map D.int), .un, .un, .un, .un, .un, .un, .un, .un, .un, .un, .un, .un, .un, .un, .un]) rfl ?_
  obtain ⟨row, hrow, hnn, hnum⟩ := numbers_ok ns 0 14 (by omega) (by omega)
  replace hrow : row.length = 14 := hrow
  unfold intsD at hnum
  obtain ⟨r, g, a, s, hdr, hr, hg, hs⟩ := rule_drawn_ok row hrow
  unfold drD at hdr
  obtain ⟨t, rate, hld, hra, ht⟩ := life_drawn_ok row hrow
  have gp := grp_pos hg
  have hH : 0 ≤ 1001 / rate - 1 ∧ 1001 / rate - 1 ≤ 1000 := by
    have h1 : 1 ≤ 1001 / rate := Int.le_ediv_of_mul_le (by omega) (by omega)
    have h2 : 1001 / rate ≤ 1001 := Int.ediv_le_self _ (by decide)
    omega
  have hk : 0 ≤ rate * (t + 1) - 1 ∧ rate * (t + 1) - 1 ≤ 1000 := ⟨by have := rate_ge hra.1 ht.1; omega, by have := rate_le hra.1 ht.2; omega⟩
  unfold B_f_law
  (with_reducible (refine wp_sSeq ?_; refine wp_sSet ?_; refine wp_eCall ?_; refine wp_aCons ?_; refine wp_eV ?_; refine gv_0 ?_; refine nu_lst ?_; refine fz_lst ?_; refine st_0 ?_; refine wp_aCons ?_; refine wp_eC ?_; refine wp_aCons ?_; refine wp_eC ?_; refine wp_aNil ?_; refine fF_of (by assumption) ?_; refine pbc_n ?_; refine pbc_n ?_; refine pbc_n ?_; refine pbc_0 ?_; refine st_s ?_; refine st_0 ?_; refine sq_nx ?_; refine wp_sSeq ?_; refine wp_sSet ?_; refine wp_eCall ?_; refine wp_aCons ?_; refine wp_eV ?_; refine gv_s ?_; refine gv_0 ?_; refine nu_olst ?_; refine fz_intsO ?_; refine st_s ?_; refine st_0 ?_; refine wp_aNil ?_; refine fF_of (by assumption) ?_; refine pbc_n ?_; refine pbc_0 ?_; refine st_s ?_; refine st_s ?_; refine st_0 ?_; refine sq_nx ?_; refine wp_sSeq ?_; refine wp_sAsg ?_; refine wp_eV ?_; refine gv_s ?_; refine gv_s ?_; refine gv_0 ?_; refine nu_tup ?_; refine fz_tup ?_; refine st_s ?_; refine st_s ?_; refine st_0 ?_; refine wp_gT ?_; refine sq_s (by with_unfolding_all rfl) ?_; refine len_eq (by with_unfolding_all rfl) ?_; refine wp_gsCons ?_; refine wp_gN ?_; refine st_s ?_; refine st_s ?_; refine st_s ?_; refine st_0 ?_; refine wp_gsCons ?_; refine wp_gN ?_; refine st_s ?_; refine st_s ?_; refine st_s ?_; refine st_s ?_; refine st_0 ?_; refine wp_gsCons ?_; refine wp_gN ?_; refine st_s ?_; refine st_s ?_; refine st_s ?_; refine st_s ?_; refine st_s ?_; refine st_0 ?_; refine wp_gsCons ?_; refine wp_gN ?_; refine st_s ?_; refine st_s ?_; refine st_s ?_; refine st_s ?_; refine st_s ?_; refine st_s ?_; refine st_0 ?_; refine wp_gsNil ?_; refine sq_nx ?_; refine wp_sSeq ?_; refine wp_sAsg ?_; refine wp_eCall ?_; refine wp_aCons ?_; refine wp_eV ?_; refine gv_s ?_; refine gv_0 ?_; refine nu_lst ?_; refine fz_lst ?_; refine st_s ?_; refine st_0 ?_; refine wp_aNil ?_; refine fF_of (by assumption) ?_; refine pbc_n ?_; refine pbc_0 ?_; refine wp_gT ?_; refine sq_s (by with_unfolding_all rfl) ?_; refine len_eq (by with_unfolding_all rfl) ?_; refine wp_gsCons ?_; refine wp_gN ?_; refine st_s ?_; refine st_s ?_; refine st_s ?_; refine st_s ?_; refine st_s ?_; refine st_s ?_; refine st_s ?_; refine st_0 ?_; refine wp_gsCons ?_; refine wp_gN ?_; refine st_s ?_; refine st_s ?_; refine st_s ?_; refine st_s ?_; refine st_s ?_; refine st_s ?_; refine st_s ?_; refine st_s ?_; refine st_0 ?_; refine wp_gsNil ?_; refine sq_nx ?_; refine wp_sSeq ?_; refine wp_sSet ?_; refine wp_eBin ?_; refine wp_eIxW ?_; refine gv_s ?_; refine gv_0 ?_; refine nu_lst ?_; refine wp_eC ?_; refine gv_s ?_; refine gv_0 ?_; refine nu_lst ?_; refine o_ixIL (by omega) (by omega) ?_; refine br_isO (by with_unfolding_all rfl) ?_; refine wp_eC ?_; refine o_mod (by omega) ?_; refine st_s ?_; refine st_s ?_; refine st_s ?_; refine st_s ?_; refine st_s ?_; refine st_s ?_; refine st_s ?_; refine st_s ?_; refine st_s ?_; refine st_0 ?_; refine sq_nx ?_))
  refine wp_cut (fun e => ∃ j : Int, (0 ≤ j ∧ j ≤ 1000) ∧ e = [.lst (ns.map D.int), .lst (row.map D.int), .tup [.int r, .int g, .str a, .str s], .int r, .int g, .str a, .str s, .int t, .int rate, .int j, .un, .un, .un, .un, .un, .un]) ?_ ?_
  · (with_reducible (refine wp_sIf ?_; refine wp_qB ?_; refine wp_eBin ?_; refine wp_eBin ?_; refine wp_eIxW ?_; refine gv_s ?_; refine gv_0 ?_; refine nu_lst ?_; refine wp_eC ?_; refine gv_s ?_; refine gv_0 ?_; refine nu_lst ?_; refine o_ixIL (by omega) (by omega) ?_; refine br_isO (by with_unfolding_all rfl) ?_; refine wp_eC ?_; refine o_mod (by omega) ?_; refine wp_eC ?_; refine o_eqI ?_; refine o_toB ?_))
    (focus (refine br_d (fun h => ?_) (fun h => ?_); rotate_left; (with_reducible (refine wp_sNx ?_; refine ⟨by with_unfolding_all rfl, ?_⟩)); rotate_left; (with_reducible (refine wp_sSet ?_; refine wp_eBin ?_; refine wp_eIxW ?_; refine gv_s ?_; refine gv_0 ?_; refine nu_lst ?_; refine wp_eC ?_; refine gv_s ?_; refine gv_0 ?_; refine nu_lst ?_; refine o_ixIL (by omega) (by omega) ?_; refine br_isO (by with_unfolding_all rfl) ?_; refine wp_eC ?_; refine o_mod (by omega) ?_; refine st_s ?_; refine st_s ?_; refine st_s ?_; refine st_s ?_; refine st_s ?_; refine st_s ?_; refine st_s ?_; refine st_s ?_; refine st_s ?_; refine st_0 ?_; refine ⟨by with_unfolding_all rfl, ?_⟩))))
    · exact ⟨_, by omega, rfl⟩
    · exact ⟨_, by omega, rfl⟩
  rintro e ⟨j, hj, rfl⟩
  (with_reducible (refine wp_sSeq ?_; refine wp_sSet ?_; refine wp_eBin ?_; refine wp_eC ?_; refine wp_eBin ?_; refine wp_eIxW ?_; refine gv_s ?_; refine gv_0 ?_; refine nu_lst ?_; refine wp_eC ?_; refine gv_s ?_; refine gv_0 ?_; refine nu_lst ?_; refine o_ixIL (by omega) (by omega) ?_; refine br_isO (by with_unfolding_all rfl) ?_; refine wp_eC ?_; refine o_mod (by omega) ?_; refine o_add ?_; refine st_s ?_; refine st_s ?_; refine st_s ?_; refine st_s ?_; refine st_s ?_; refine st_s ?_; refine st_s ?_; refine st_s ?_; refine st_s ?_; refine st_s ?_; refine st_0 ?_; refine sq_nx ?_))
  refine wp_cut (fun e => ∃ w : Int, (1 ≤ w ∧ w ≤ 1000) ∧ e = [.lst (ns.map D.int), .lst (row.map D.int), .tup [.int r, .int g, .str a, .str s], .int r, .int g, .str a, .str s, .int t, .int rate, .int j, .int w, .un, .un, .un, .un, .un]) ?_ ?_
  · (with_reducible (refine wp_sIf ?_; refine wp_qB ?_; refine wp_eBin ?_; refine wp_eBin ?_; refine wp_eIxW ?_; refine gv_s ?_; refine gv_0 ?_; refine nu_lst ?_; refine wp_eC ?_; refine gv_s ?_; refine gv_0 ?_; refine nu_lst ?_; refine o_ixIL (by omega) (by omega) ?_; refine br_isO (by with_unfolding_all rfl) ?_; refine wp_eC ?_; refine o_mod (by omega) ?_; refine wp_eC ?_; refine o_eqI ?_; refine o_toB ?_))
    (focus (refine br_d (fun h => ?_) (fun h => ?_); rotate_left; (with_reducible (refine wp_sNx ?_; refine ⟨by with_unfolding_all rfl, ?_⟩)); rotate_left; (with_reducible (refine wp_sSet ?_; refine wp_eBin ?_; refine wp_eC ?_; refine wp_eBin ?_; refine wp_eIxW ?_; refine gv_s ?_; refine gv_0 ?_; refine nu_lst ?_; refine wp_eC ?_; refine gv_s ?_; refine gv_0 ?_; refine nu_lst ?_; refine o_ixIL (by omega) (by omega) ?_; refine br_isO (by with_unfolding_all rfl) ?_; refine wp_eC ?_; refine o_mod (by omega) ?_; refine o_add ?_; refine st_s ?_; refine st_s ?_; refine st_s ?_; refine st_s ?_; refine st_s ?_; refine st_s ?_; refine st_s ?_; refine st_s ?_; refine st_s ?_; refine st_s ?_; refine st_0 ?_; refine ⟨by with_unfolding_all rfl, ?_⟩))))
    · exact ⟨_, by omega, rfl⟩
    · exact ⟨_, by omega, rfl⟩
  rintro e ⟨w1, hw1, rfl⟩
  refine wp_cut (fun e => ∃ w : Int, (1 ≤ w ∧ w ≤ 1000) ∧ e = [.lst (ns.map D.int), .lst (row.map D.int), .tup [.int r, .int g, .str a, .str s], .int r, .int g, .str a, .str s, .int t, .int rate, .int j, .int w, .un, .un, .un, .un, .un]) ?_ ?_
  · (with_reducible (refine wp_sIf ?_; refine wp_qB ?_; refine wp_eBin ?_; refine wp_eBin ?_; refine wp_eIxW ?_; refine gv_s ?_; refine gv_0 ?_; refine nu_lst ?_; refine wp_eC ?_; refine gv_s ?_; refine gv_0 ?_; refine nu_lst ?_; refine o_ixIL (by omega) (by omega) ?_; refine br_isO (by with_unfolding_all rfl) ?_; refine wp_eC ?_; refine o_mod (by omega) ?_; refine wp_eC ?_; refine o_eqI ?_; refine o_toB ?_))
    (focus (refine br_d (fun h => ?_) (fun h => ?_); rotate_left; (with_reducible (refine wp_sNx ?_; refine ⟨by with_unfolding_all rfl, ?_⟩)); rotate_left; (with_reducible (refine wp_sSet ?_; refine wp_eC ?_; refine st_s ?_; refine st_s ?_; refine st_s ?_; refine st_s ?_; refine st_s ?_; refine st_s ?_; refine st_s ?_; refine st_s ?_; refine st_s ?_; refine st_s ?_; refine st_0 ?_; refine ⟨by with_unfolding_all rfl, ?_⟩))))
    · exact ⟨_, by omega, rfl⟩
    · exact ⟨_, hw1, rfl⟩
  rintro e ⟨w2, hw2, rfl⟩
  refine wp_cut (fun e => ∃ w : Int, (1 ≤ w ∧ w ≤ 1000) ∧ e = [.lst (ns.map D.int), .lst (row.map D.int), .tup [.int r, .int g, .str a, .str s], .int r, .int g, .str a, .str s, .int t, .int rate, .int j, .int w, .un, .un, .un, .un, .un]) ?_ ?_
  · (with_reducible (refine wp_sIf ?_; refine wp_qB ?_; refine wp_eBin ?_; refine wp_eBin ?_; refine wp_eIxW ?_; refine gv_s ?_; refine gv_0 ?_; refine nu_lst ?_; refine wp_eC ?_; refine gv_s ?_; refine gv_0 ?_; refine nu_lst ?_; refine o_ixIL (by omega) (by omega) ?_; refine br_isO (by with_unfolding_all rfl) ?_; refine wp_eC ?_; refine o_mod (by omega) ?_; refine wp_eC ?_; refine o_eqI ?_; refine o_toB ?_))
    (focus (refine br_d (fun h => ?_) (fun h => ?_); rotate_left; (with_reducible (refine wp_sNx ?_; refine ⟨by with_unfolding_all rfl, ?_⟩)); rotate_left; (with_reducible (refine wp_sSet ?_; refine wp_eBin ?_; refine wp_eC ?_; refine wp_eBin ?_; refine wp_eIxW ?_; refine gv_s ?_; refine gv_0 ?_; refine nu_lst ?_; refine wp_eC ?_; refine gv_s ?_; refine gv_0 ?_; refine nu_lst ?_; refine o_ixIL (by omega) (by omega) ?_; refine br_isO (by with_unfolding_all rfl) ?_; refine wp_eC ?_; refine o_mod (by omega) ?_; refine o_sub ?_; refine st_s ?_; refine st_s ?_; refine st_s ?_; refine st_s ?_; refine st_s ?_; refine st_s ?_; refine st_s ?_; refine st_s ?_; refine st_s ?_; refine st_s ?_; refine st_0 ?_; refine ⟨by with_unfolding_all rfl, ?_⟩))))
    · exact ⟨_, by omega, rfl⟩
    · exact ⟨_, hw2, rfl⟩
  rintro e ⟨w, hw, rfl⟩
  (with_reducible (refine wp_sSeq ?_; refine wp_sSet ?_; refine wp_eBin ?_; refine wp_eBin ?_; refine wp_eV ?_; refine gv_s ?_; refine gv_s ?_; refine gv_s ?_; refine gv_s ?_; refine gv_s ?_; refine gv_s ?_; refine gv_s ?_; refine gv_s ?_; refine gv_0 ?_; refine nu_int ?_; refine fz_int ?_; refine st_s ?_; refine st_s ?_; refine st_s ?_; refine st_s ?_; refine st_s ?_; refine st_s ?_; refine st_s ?_; refine st_s ?_; refine st_0 ?_; refine wp_eBin ?_; refine wp_eV ?_; refine gv_s ?_; refine gv_s ?_; refine gv_s ?_; refine gv_s ?_; refine gv_s ?_; refine gv_s ?_; refine gv_s ?_; refine gv_0 ?_; refine nu_int ?_; refine fz_int ?_; refine st_s ?_; refine st_s ?_; refine st_s ?_; refine st_s ?_; refine st_s ?_; refine st_s ?_; refine st_s ?_; refine st_0 ?_; refine wp_eC ?_; refine o_add ?_; refine o_mul (by omega) ?_; refine wp_eC ?_; refine o_sub ?_; refine st_s ?_; refine st_s ?_; refine st_s ?_; refine st_s ?_; refine st_s ?_; refine st_s ?_; refine st_s ?_; refine st_s ?_; refine st_s ?_; refine st_s ?_; refine st_s ?_; refine st_0 ?_; refine sq_nx ?_; refine wp_sSeq ?_; refine wp_sSet ?_; refine wp_eBin ?_; refine wp_eBin ?_; refine wp_eCall ?_; refine wp_aCons ?_; refine wp_eV ?_; refine gv_s ?_; refine gv_s ?_; refine gv_s ?_; refine gv_s ?_; refine gv_s ?_; refine gv_s ?_; refine gv_s ?_; refine gv_s ?_; refine gv_s ?_; refine gv_s ?_; refine gv_0 ?_; refine nu_int ?_; refine fz_int ?_; refine st_s ?_; refine st_s ?_; refine st_s ?_; refine st_s ?_; refine st_s ?_; refine st_s ?_; refine st_s ?_; refine st_s ?_; refine st_s ?_; refine st_s ?_; refine st_0 ?_; refine wp_aCons ?_; refine wp_eV ?_; refine gv_s ?_; refine gv_s ?_; refine gv_s ?_; refine gv_0 ?_; refine nu_int ?_; refine fz_int ?_; refine st_s ?_; refine st_s ?_; refine st_s ?_; refine st_0 ?_; refine wp_aCons ?_; refine wp_eV ?_; refine gv_s ?_; refine gv_s ?_; refine gv_s ?_; refine gv_s ?_; refine gv_0 ?_; refine nu_int ?_; refine fz_int ?_; refine st_s ?_; refine st_s ?_; refine st_s ?_; refine st_s ?_; refine st_0 ?_; refine wp_aCons ?_; refine wp_eV ?_; refine gv_s ?_; refine gv_s ?_; refine gv_s ?_; refine gv_s ?_; refine gv_s ?_; refine gv_0 ?_; refine nu_str ?_; refine fz_str ?_; refine st_s ?_; refine st_s ?_; refine st_s ?_; refine st_s ?_; refine st_s ?_; refine st_0 ?_; refine wp_aCons ?_; refine wp_eV ?_; refine gv_s ?_; refine gv_s ?_; refine gv_s ?_; refine gv_s ?_; refine gv_s ?_; refine gv_s ?_; refine gv_0 ?_; refine nu_str ?_; refine fz_str ?_; refine st_s ?_; refine st_s ?_; refine st_s ?_; refine st_s ?_; refine st_s ?_; refine st_s ?_; refine st_0 ?_; refine wp_aCons ?_; refine wp_eV ?_; refine gv_s ?_; refine gv_s ?_; refine gv_s ?_; refine gv_s ?_; refine gv_s ?_; refine gv_s ?_; refine gv_s ?_; refine gv_s ?_; refine gv_s ?_; refine gv_s ?_; refine gv_s ?_; refine gv_0 ?_; refine nu_int ?_; refine fz_int ?_; refine st_s ?_; refine st_s ?_; refine st_s ?_; refine st_s ?_; refine st_s ?_; refine st_s ?_; refine st_s ?_; refine st_s ?_; refine st_s ?_; refine st_s ?_; refine st_s ?_; refine st_0 ?_; refine wp_aCons ?_; refine wp_eV ?_; refine gv_s ?_; refine gv_s ?_; refine gv_s ?_; refine gv_s ?_; refine gv_s ?_; refine gv_s ?_; refine gv_s ?_; refine gv_s ?_; refine gv_s ?_; refine gv_0 ?_; refine nu_int ?_; refine fz_int ?_; refine st_s ?_; refine st_s ?_; refine st_s ?_; refine st_s ?_; refine st_s ?_; refine st_s ?_; refine st_s ?_; refine st_s ?_; refine st_s ?_; refine st_0 ?_; refine wp_aNil ?_))
  refine fF_of (least_law hw hr hg hs hk hj) ?_
  have hl := ls_range (re := isRe w s) (a := a) hw hr gp hk hj
  (with_reducible (refine pbc_n ?_; refine pbc_n ?_; refine pbc_n ?_; refine pbc_n ?_; refine pbc_n ?_; refine pbc_n ?_; refine pbc_n ?_; refine pbc_0 ?_; refine wp_eC ?_; refine o_sub ?_; refine wp_eBin ?_; refine wp_eIxW ?_; refine gv_s ?_; refine gv_0 ?_; refine nu_lst ?_; refine wp_eC ?_; refine gv_s ?_; refine gv_0 ?_; refine nu_lst ?_; refine o_ixIL (by omega) (by omega) ?_; refine br_isO (by with_unfolding_all rfl) ?_; refine wp_eC ?_; refine o_mod (by omega) ?_; refine o_add ?_; refine st_s ?_; refine st_s ?_; refine st_s ?_; refine st_s ?_; refine st_s ?_; refine st_s ?_; refine st_s ?_; refine st_s ?_; refine st_s ?_; refine st_s ?_; refine st_s ?_; refine st_s ?_; refine st_0 ?_; refine sq_nx ?_; refine wp_sSeq ?_; refine wp_sSet ?_; refine wp_eMk ?_; refine wp_aCons ?_; refine wp_eV ?_; refine gv_s ?_; refine gv_s ?_; refine gv_s ?_; refine gv_s ?_; refine gv_s ?_; refine gv_s ?_; refine gv_s ?_; refine gv_0 ?_; refine nu_int ?_; refine fz_int ?_; refine st_s ?_; refine st_s ?_; refine st_s ?_; refine st_s ?_; refine st_s ?_; refine st_s ?_; refine st_s ?_; refine st_0 ?_; refine wp_aCons ?_; refine wp_eV ?_; refine gv_s ?_; refine gv_s ?_; refine gv_s ?_; refine gv_s ?_; refine gv_s ?_; refine gv_s ?_; refine gv_s ?_; refine gv_s ?_; refine gv_0 ?_; refine nu_int ?_; refine fz_int ?_; refine st_s ?_; refine st_s ?_; refine st_s ?_; refine st_s ?_; refine st_s ?_; refine st_s ?_; refine st_s ?_; refine st_s ?_; refine st_0 ?_; refine wp_aNil ?_))
  generalize hNd : ls (isRe w s) w r a g (rate * (t + 1) - 1) j - 1 + row.getD (13 : Int).toNat 0 % 3 = N
  have hN : 1 ≤ N ∧ N ≤ 2000000 := by omega
  refine fF_of (life_ok (by omega) hra) ?_
  (with_reducible (refine mkP_ok ?_; refine pbc_n ?_; refine pbc_n ?_; refine pbc_0 ?_; refine st_s ?_; refine st_s ?_; refine st_s ?_; refine st_s ?_; refine st_s ?_; refine st_s ?_; refine st_s ?_; refine st_s ?_; refine st_s ?_; refine st_s ?_; refine st_s ?_; refine st_s ?_; refine st_s ?_; refine st_0 ?_; refine sq_nx ?_; refine wp_sSeq ?_; refine wp_sSet ?_; refine wp_eCall ?_; refine wp_aCons ?_; refine wp_eV ?_; refine gv_s ?_; refine gv_s ?_; refine gv_s ?_; refine gv_s ?_; refine gv_s ?_; refine gv_s ?_; refine gv_s ?_; refine gv_s ?_; refine gv_s ?_; refine gv_s ?_; refine gv_s ?_; refine gv_s ?_; refine gv_s ?_; refine gv_0 ?_; refine nu_oins ?_; refine fz_oins ?_; refine st_s ?_; refine st_s ?_; refine st_s ?_; refine st_s ?_; refine st_s ?_; refine st_s ?_; refine st_s ?_; refine st_s ?_; refine st_s ?_; refine st_s ?_; refine st_s ?_; refine st_s ?_; refine st_s ?_; refine st_0 ?_; refine wp_aCons ?_; refine wp_eV ?_; refine gv_s ?_; refine gv_s ?_; refine gv_s ?_; refine gv_s ?_; refine gv_s ?_; refine gv_s ?_; refine gv_s ?_; refine gv_s ?_; refine gv_s ?_; refine gv_0 ?_; refine nu_int ?_; refine fz_int ?_; refine st_s ?_; refine st_s ?_; refine st_s ?_; refine st_s ?_; refine st_s ?_; refine st_s ?_; refine st_s ?_; refine st_s ?_; refine st_s ?_; refine st_0 ?_; refine wp_aNil ?_; simp only [freezeL, freeze]))
  refine fF_of (lchan_ok (by omega) hra hk hj) ?_
  (with_reducible (refine pbc_n ?_; refine pbc_n ?_; refine pbc_0 ?_; refine st_s ?_; refine st_s ?_; refine st_s ?_; refine st_s ?_; refine st_s ?_; refine st_s ?_; refine st_s ?_; refine st_s ?_; refine st_s ?_; refine st_s ?_; refine st_s ?_; refine st_s ?_; refine st_s ?_; refine st_s ?_; refine st_0 ?_; refine sq_nx ?_; refine wp_sSeq ?_; refine wp_sIf ?_; refine wp_qOr ?_; refine wp_qNot ?_; refine wp_qT ?_; refine wp_eCall ?_; refine wp_aCons ?_; refine wp_eCall ?_; refine wp_aCons ?_; refine wp_eV ?_; refine gv_s ?_; refine gv_s ?_; refine gv_s ?_; refine gv_s ?_; refine gv_s ?_; refine gv_s ?_; refine gv_s ?_; refine gv_s ?_; refine gv_s ?_; refine gv_s ?_; refine gv_s ?_; refine gv_s ?_; refine gv_s ?_; refine gv_0 ?_; refine nu_ins ?_; refine fz_ins ?_; refine st_s ?_; refine st_s ?_; refine st_s ?_; refine st_s ?_; refine st_s ?_; refine st_s ?_; refine st_s ?_; refine st_s ?_; refine st_s ?_; refine st_s ?_; refine st_s ?_; refine st_s ?_; refine st_s ?_; refine st_0 ?_; refine wp_aNil ?_))
  refine fF_of (lag_ok (by omega) hra) ?_
  (with_reducible (refine pbc_n ?_; refine pbc_0 ?_; refine wp_aCons ?_; refine wp_eV ?_; refine gv_s ?_; refine gv_s ?_; refine gv_s ?_; refine gv_s ?_; refine gv_s ?_; refine gv_s ?_; refine gv_s ?_; refine gv_s ?_; refine gv_s ?_; refine gv_s ?_; refine gv_s ?_; refine gv_0 ?_; refine nu_int ?_; refine fz_int ?_; refine st_s ?_; refine st_s ?_; refine st_s ?_; refine st_s ?_; refine st_s ?_; refine st_s ?_; refine st_s ?_; refine st_s ?_; refine st_s ?_; refine st_s ?_; refine st_s ?_; refine st_0 ?_; refine wp_aNil ?_))
  refine fF_of (like_int 7) ?_
  (with_reducible (refine pbc_n ?_; refine pbc_n ?_; refine pbc_0 ?_; refine o_truB ?_; refine br_n ?_; refine br_dT (by omega) ?_; refine wp_qOr ?_; refine wp_qNot ?_; refine wp_qT ?_; refine wp_eIsi ?_; refine wp_eV ?_; refine gv_s ?_; refine gv_s ?_; refine gv_s ?_; refine gv_s ?_; refine gv_s ?_; refine gv_s ?_; refine gv_s ?_; refine gv_s ?_; refine gv_s ?_; refine gv_s ?_; refine gv_s ?_; refine gv_s ?_; refine gv_s ?_; refine gv_s ?_; refine gv_0 ?_; refine nu_oins ?_; refine fz_oins ?_; refine st_s ?_; refine st_s ?_; refine st_s ?_; refine st_s ?_; refine st_s ?_; refine st_s ?_; refine st_s ?_; refine st_s ?_; refine st_s ?_; refine st_s ?_; refine st_s ?_; refine st_s ?_; refine st_s ?_; refine st_s ?_; refine st_0 ?_; refine o_isi (by with_unfolding_all rfl) ?_; refine o_truB ?_; refine br_n ?_; refine br_t ?_; refine wp_qNot ?_; refine wp_qT ?_; refine wp_eCall ?_; refine wp_aCons ?_; refine wp_eCase ?_; refine br_isCF (by with_unfolding_all rfl) ?_; refine wp_eMethV ?_; refine gv_s ?_; refine gv_s ?_; refine gv_s ?_; refine gv_s ?_; refine gv_s ?_; refine gv_s ?_; refine gv_s ?_; refine gv_s ?_; refine gv_s ?_; refine gv_s ?_; refine gv_s ?_; refine gv_s ?_; refine gv_s ?_; refine gv_s ?_; refine gv_0 ?_; refine nu_ins ?_; refine o_ins ?_; refine fst_eq ?_; refine st_s ?_; refine st_s ?_; refine st_s ?_; refine st_s ?_; refine st_s ?_; refine st_s ?_; refine st_s ?_; refine st_s ?_; refine st_s ?_; refine st_s ?_; refine st_s ?_; refine st_s ?_; refine st_s ?_; refine st_s ?_; refine st_0 ?_; refine wp_aNil ?_; simp only [freezeL, freeze]))
  refine fF_of fields_ok ?_
  (with_reducible (refine pbc_s ?_; refine st_s ?_; refine st_s ?_; refine st_s ?_; refine st_s ?_; refine st_s ?_; refine st_s ?_; refine st_s ?_; refine st_s ?_; refine st_s ?_; refine st_s ?_; refine st_s ?_; refine st_s ?_; refine st_s ?_; refine st_s ?_; refine st_0 ?_; refine pbc_0 ?_; refine wp_aCons ?_; refine wp_eTup ?_; refine wp_aCons ?_; refine wp_eV ?_; refine gv_s ?_; refine gv_s ?_; refine gv_s ?_; refine gv_s ?_; refine gv_s ?_; refine gv_s ?_; refine gv_s ?_; refine gv_s ?_; refine gv_s ?_; refine gv_s ?_; refine gv_s ?_; refine gv_0 ?_; refine nu_int ?_; refine fz_int ?_; refine st_s ?_; refine st_s ?_; refine st_s ?_; refine st_s ?_; refine st_s ?_; refine st_s ?_; refine st_s ?_; refine st_s ?_; refine st_s ?_; refine st_s ?_; refine st_s ?_; refine st_0 ?_; refine wp_aCons ?_; refine wp_eV ?_; refine gv_s ?_; refine gv_s ?_; refine gv_s ?_; refine gv_s ?_; refine gv_s ?_; refine gv_s ?_; refine gv_s ?_; refine gv_s ?_; refine gv_s ?_; refine gv_0 ?_; refine nu_int ?_; refine fz_int ?_; refine st_s ?_; refine st_s ?_; refine st_s ?_; refine st_s ?_; refine st_s ?_; refine st_s ?_; refine st_s ?_; refine st_s ?_; refine st_s ?_; refine st_0 ?_; refine wp_aNil ?_; refine len_ok (by with_unfolding_all rfl) ?_; refine mkt_t (by with_unfolding_all rfl) ?_; refine wp_aNil ?_))
  refine fF_of (like_pair _ _) ?_
  (with_reducible (refine pbc_n ?_; refine pbc_n ?_; refine pbc_0 ?_; refine o_truB ?_; refine br_n ?_; refine br_t ?_; refine wp_sNx ?_; refine sq_nx ?_; refine wp_sSeq ?_; refine wp_sSet ?_; refine wp_eCall ?_; refine wp_aCons ?_; refine wp_eV ?_; refine gv_s ?_; refine gv_s ?_; refine gv_s ?_; refine gv_0 ?_; refine nu_int ?_; refine fz_int ?_; refine st_s ?_; refine st_s ?_; refine st_s ?_; refine st_0 ?_; refine wp_aCons ?_; refine wp_eV ?_; refine gv_s ?_; refine gv_s ?_; refine gv_s ?_; refine gv_s ?_; refine gv_0 ?_; refine nu_int ?_; refine fz_int ?_; refine st_s ?_; refine st_s ?_; refine st_s ?_; refine st_s ?_; refine st_0 ?_; refine wp_aCons ?_; refine wp_eV ?_; refine gv_s ?_; refine gv_s ?_; refine gv_s ?_; refine gv_s ?_; refine gv_s ?_; refine gv_0 ?_; refine nu_str ?_; refine fz_str ?_; refine st_s ?_; refine st_s ?_; refine st_s ?_; refine st_s ?_; refine st_s ?_; refine st_0 ?_; refine wp_aCons ?_; refine wp_eV ?_; refine gv_s ?_; refine gv_s ?_; refine gv_s ?_; refine gv_s ?_; refine gv_s ?_; refine gv_s ?_; refine gv_0 ?_; refine nu_str ?_; refine fz_str ?_; refine st_s ?_; refine st_s ?_; refine st_s ?_; refine st_s ?_; refine st_s ?_; refine st_s ?_; refine st_0 ?_; refine wp_aCons ?_; refine wp_eV ?_; refine gv_s ?_; refine gv_s ?_; refine gv_s ?_; refine gv_s ?_; refine gv_s ?_; refine gv_s ?_; refine gv_s ?_; refine gv_s ?_; refine gv_s ?_; refine gv_s ?_; refine gv_s ?_; refine gv_0 ?_; refine nu_int ?_; refine fz_int ?_; refine st_s ?_; refine st_s ?_; refine st_s ?_; refine st_s ?_; refine st_s ?_; refine st_s ?_; refine st_s ?_; refine st_s ?_; refine st_s ?_; refine st_s ?_; refine st_s ?_; refine st_0 ?_; refine wp_aCons ?_; refine wp_eV ?_; refine gv_s ?_; refine gv_s ?_; refine gv_s ?_; refine gv_s ?_; refine gv_s ?_; refine gv_s ?_; refine gv_s ?_; refine gv_s ?_; refine gv_s ?_; refine gv_0 ?_; refine nu_int ?_; refine fz_int ?_; refine st_s ?_; refine st_s ?_; refine st_s ?_; refine st_s ?_; refine st_s ?_; refine st_s ?_; refine st_s ?_; refine st_s ?_; refine st_s ?_; refine st_0 ?_; refine wp_aCons ?_; refine wp_eV ?_; refine gv_s ?_; refine gv_s ?_; refine gv_s ?_; refine gv_s ?_; refine gv_s ?_; refine gv_s ?_; refine gv_s ?_; refine gv_s ?_; refine gv_s ?_; refine gv_s ?_; refine gv_s ?_; refine gv_s ?_; refine gv_0 ?_; refine nu_int ?_; refine fz_int ?_; refine st_s ?_; refine st_s ?_; refine st_s ?_; refine st_s ?_; refine st_s ?_; refine st_s ?_; refine st_s ?_; refine st_s ?_; refine st_s ?_; refine st_s ?_; refine st_s ?_; refine st_s ?_; refine st_0 ?_; refine wp_aNil ?_))
  obtain ⟨x, hx, sx⟩ := window_ok (N := N) hr hg hs hk hj
  obtain ⟨x2, hx2, sx2⟩ := largest_ok hr hg hs hk hj hN
  have e : x2 = x := Spec.uniq (fW_mono hr.1 hk.1 hj.1 gp.1 hs) sx2 sx
  subst e
  have x0 := sx.flo
  have x1 := sx.fhi
  refine fF_of hx ?_
  (with_reducible (refine pbc_n ?_; refine pbc_n ?_; refine pbc_n ?_; refine pbc_n ?_; refine pbc_n ?_; refine pbc_n ?_; refine pbc_n ?_; refine pbc_0 ?_; refine st_s ?_; refine st_s ?_; refine st_s ?_; refine st_s ?_; refine st_s ?_; refine st_s ?_; refine st_s ?_; refine st_s ?_; refine st_s ?_; refine st_s ?_; refine st_s ?_; refine st_s ?_; refine st_s ?_; refine st_s ?_; refine st_s ?_; refine st_0 ?_; refine sq_nx ?_; refine wp_sSeq ?_; refine wp_sIf ?_; refine wp_qNot ?_; refine wp_qT ?_; refine wp_eCall ?_; refine wp_aCons ?_; refine wp_eCallK ?_; refine wp_aCons ?_; refine wp_eV ?_; refine gv_s ?_; refine gv_s ?_; refine gv_s ?_; refine gv_s ?_; refine gv_s ?_; refine gv_s ?_; refine gv_s ?_; refine gv_s ?_; refine gv_s ?_; refine gv_s ?_; refine gv_s ?_; refine gv_s ?_; refine gv_s ?_; refine gv_s ?_; refine gv_0 ?_; refine nu_ins ?_; refine fz_ins ?_; refine st_s ?_; refine st_s ?_; refine st_s ?_; refine st_s ?_; refine st_s ?_; refine st_s ?_; refine st_s ?_; refine st_s ?_; refine st_s ?_; refine st_s ?_; refine st_s ?_; refine st_s ?_; refine st_s ?_; refine st_s ?_; refine st_0 ?_; refine wp_aCons ?_; refine wp_eV ?_; refine gv_s ?_; refine gv_s ?_; refine gv_s ?_; refine gv_s ?_; refine gv_s ?_; refine gv_s ?_; refine gv_s ?_; refine gv_s ?_; refine gv_s ?_; refine gv_s ?_; refine gv_s ?_; refine gv_s ?_; refine gv_0 ?_; refine nu_int ?_; refine fz_int ?_; refine st_s ?_; refine st_s ?_; refine st_s ?_; refine st_s ?_; refine st_s ?_; refine st_s ?_; refine st_s ?_; refine st_s ?_; refine st_s ?_; refine st_s ?_; refine st_s ?_; refine st_s ?_; refine st_0 ?_; refine wp_aNil ?_; refine wp_aConsF ?_; refine wp_eV ?_; refine gv_s ?_; refine gv_s ?_; refine gv_s ?_; refine gv_0 ?_; refine nu_int ?_; refine fz_int ?_; refine st_s ?_; refine st_s ?_; refine st_s ?_; refine st_0 ?_; refine fz_int ?_; refine wp_aConsF ?_; refine wp_eV ?_; refine gv_s ?_; refine gv_s ?_; refine gv_s ?_; refine gv_s ?_; refine gv_s ?_; refine gv_0 ?_; refine nu_str ?_; refine fz_str ?_; refine st_s ?_; refine st_s ?_; refine st_s ?_; refine st_s ?_; refine st_s ?_; refine st_0 ?_; refine fz_str ?_; refine wp_aConsF ?_; refine wp_eV ?_; refine gv_s ?_; refine gv_s ?_; refine gv_s ?_; refine gv_s ?_; refine gv_s ?_; refine gv_s ?_; refine gv_0 ?_; refine nu_str ?_; refine fz_str ?_; refine st_s ?_; refine st_s ?_; refine st_s ?_; refine st_s ?_; refine st_s ?_; refine st_s ?_; refine st_0 ?_; refine fz_str ?_; refine wp_aNil ?_; refine o_sel (by with_unfolding_all rfl) ?_))
  refine fF_of hx2 ?_
  (with_reducible (refine noP_n ?_; refine wp_aCons ?_; refine wp_eV ?_; refine gv_s ?_; refine gv_s ?_; refine gv_s ?_; refine gv_s ?_; refine gv_s ?_; refine gv_s ?_; refine gv_s ?_; refine gv_s ?_; refine gv_s ?_; refine gv_s ?_; refine gv_s ?_; refine gv_s ?_; refine gv_s ?_; refine gv_s ?_; refine gv_s ?_; refine gv_0 ?_; refine nu_int ?_; refine fz_int ?_; refine st_s ?_; refine st_s ?_; refine st_s ?_; refine st_s ?_; refine st_s ?_; refine st_s ?_; refine st_s ?_; refine st_s ?_; refine st_s ?_; refine st_s ?_; refine st_s ?_; refine st_s ?_; refine st_s ?_; refine st_s ?_; refine st_s ?_; refine st_0 ?_; refine wp_aNil ?_))
  refine fF_of (like_int 7) ?_
  (with_reducible (refine pbc_n ?_; refine pbc_n ?_; refine pbc_0 ?_; refine o_truB ?_; refine br_n ?_; refine br_dT (by omega) ?_; refine wp_sNx ?_; refine sq_nx ?_; refine wp_sSeq ?_; refine wp_sIf ?_; refine wp_qAnd ?_; refine wp_qB ?_; refine wp_eBin ?_; refine wp_eV ?_; refine gv_s ?_; refine gv_s ?_; refine gv_s ?_; refine gv_s ?_; refine gv_s ?_; refine gv_s ?_; refine gv_s ?_; refine gv_s ?_; refine gv_s ?_; refine gv_s ?_; refine gv_s ?_; refine gv_s ?_; refine gv_s ?_; refine gv_s ?_; refine gv_s ?_; refine gv_0 ?_; refine nu_int ?_; refine fz_int ?_; refine st_s ?_; refine st_s ?_; refine st_s ?_; refine st_s ?_; refine st_s ?_; refine st_s ?_; refine st_s ?_; refine st_s ?_; refine st_s ?_; refine st_s ?_; refine st_s ?_; refine st_s ?_; refine st_s ?_; refine st_s ?_; refine st_s ?_; refine st_0 ?_; refine wp_eC ?_; refine o_gt ?_; refine o_toB ?_))
  (focus (refine br_d (fun hp => ?_) (fun hp => ?_); rotate_left; (with_reducible (refine br_f ?_; refine wp_sNx ?_; refine sq_nx ?_; refine wp_sRt ?_; refine wp_eOr ?_; refine wp_eBin ?_; refine wp_eV ?_; refine gv_s ?_; refine gv_s ?_; refine gv_s ?_; refine gv_s ?_; refine gv_s ?_; refine gv_s ?_; refine gv_s ?_; refine gv_s ?_; refine gv_s ?_; refine gv_s ?_; refine gv_s ?_; refine gv_s ?_; refine gv_s ?_; refine gv_s ?_; refine gv_s ?_; refine gv_0 ?_; refine nu_int ?_; refine fz_int ?_; refine st_s ?_; refine st_s ?_; refine st_s ?_; refine st_s ?_; refine st_s ?_; refine st_s ?_; refine st_s ?_; refine st_s ?_; refine st_s ?_; refine st_s ?_; refine st_s ?_; refine st_s ?_; refine st_s ?_; refine st_s ?_; refine st_s ?_; refine st_0 ?_; refine wp_eC ?_; refine o_eqI ?_; refine o_toB ?_; refine br_dF (by omega) ?_; refine wp_eCall ?_; refine wp_aCons ?_; refine wp_eBin ?_; refine wp_eV ?_; refine gv_s ?_; refine gv_s ?_; refine gv_s ?_; refine gv_s ?_; refine gv_s ?_; refine gv_s ?_; refine gv_s ?_; refine gv_s ?_; refine gv_s ?_; refine gv_s ?_; refine gv_s ?_; refine gv_s ?_; refine gv_s ?_; refine gv_s ?_; refine gv_s ?_; refine gv_0 ?_; refine nu_int ?_; refine fz_int ?_; refine st_s ?_; refine st_s ?_; refine st_s ?_; refine st_s ?_; refine st_s ?_; refine st_s ?_; refine st_s ?_; refine st_s ?_; refine st_s ?_; refine st_s ?_; refine st_s ?_; refine st_s ?_; refine st_s ?_; refine st_s ?_; refine st_s ?_; refine st_0 ?_; refine wp_eC ?_; refine o_add ?_; refine wp_aCons ?_; refine wp_eV ?_; refine gv_s ?_; refine gv_s ?_; refine gv_0 ?_; refine nu_tup ?_; refine fz_tup ?_; refine st_s ?_; refine st_s ?_; refine st_0 ?_; refine wp_aCons ?_; refine wp_eV ?_; refine gv_s ?_; refine gv_s ?_; refine gv_s ?_; refine gv_s ?_; refine gv_s ?_; refine gv_s ?_; refine gv_s ?_; refine gv_0 ?_; refine nu_int ?_; refine fz_int ?_; refine st_s ?_; refine st_s ?_; refine st_s ?_; refine st_s ?_; refine st_s ?_; refine st_s ?_; refine st_s ?_; refine st_0 ?_; refine wp_aCons ?_; refine wp_eV ?_; refine gv_s ?_; refine gv_s ?_; refine gv_s ?_; refine gv_s ?_; refine gv_s ?_; refine gv_s ?_; refine gv_s ?_; refine gv_s ?_; refine gv_0 ?_; refine nu_int ?_; refine fz_int ?_; refine st_s ?_; refine st_s ?_; refine st_s ?_; refine st_s ?_; refine st_s ?_; refine st_s ?_; refine st_s ?_; refine st_s ?_; refine st_0 ?_; refine wp_aCons ?_; refine wp_eV ?_; refine gv_s ?_; refine gv_s ?_; refine gv_s ?_; refine gv_s ?_; refine gv_s ?_; refine gv_s ?_; refine gv_s ?_; refine gv_s ?_; refine gv_s ?_; refine gv_0 ?_; refine nu_int ?_; refine fz_int ?_; refine st_s ?_; refine st_s ?_; refine st_s ?_; refine st_s ?_; refine st_s ?_; refine st_s ?_; refine st_s ?_; refine st_s ?_; refine st_s ?_; refine st_0 ?_; refine wp_aCons ?_; refine wp_eV ?_; refine gv_s ?_; refine gv_s ?_; refine gv_s ?_; refine gv_s ?_; refine gv_s ?_; refine gv_s ?_; refine gv_s ?_; refine gv_s ?_; refine gv_s ?_; refine gv_s ?_; refine gv_s ?_; refine gv_s ?_; refine gv_0 ?_; refine nu_int ?_; refine fz_int ?_; refine st_s ?_; refine st_s ?_; refine st_s ?_; refine st_s ?_; refine st_s ?_; refine st_s ?_; refine st_s ?_; refine st_s ?_; refine st_s ?_; refine st_s ?_; refine st_s ?_; refine st_s ?_; refine st_0 ?_; refine wp_aCons ?_; refine wp_eC ?_; refine wp_aNil ?_)); rotate_left; (with_reducible (refine wp_qNot ?_; refine wp_qT ?_; refine wp_eCall ?_; refine wp_aCons ?_; refine wp_eV ?_; refine gv_s ?_; refine gv_s ?_; refine gv_s ?_; refine gv_s ?_; refine gv_s ?_; refine gv_s ?_; refine gv_s ?_; refine gv_s ?_; refine gv_s ?_; refine gv_s ?_; refine gv_s ?_; refine gv_s ?_; refine gv_s ?_; refine gv_s ?_; refine gv_s ?_; refine gv_0 ?_; refine nu_int ?_; refine fz_int ?_; refine st_s ?_; refine st_s ?_; refine st_s ?_; refine st_s ?_; refine st_s ?_; refine st_s ?_; refine st_s ?_; refine st_s ?_; refine st_s ?_; refine st_s ?_; refine st_s ?_; refine st_s ?_; refine st_s ?_; refine st_s ?_; refine st_s ?_; refine st_0 ?_; refine wp_aCons ?_; refine wp_eV ?_; refine gv_s ?_; refine gv_s ?_; refine gv_0 ?_; refine nu_tup ?_; refine fz_tup ?_; refine st_s ?_; refine st_s ?_; refine st_0 ?_; refine wp_aCons ?_; refine wp_eV ?_; refine gv_s ?_; refine gv_s ?_; refine gv_s ?_; refine gv_s ?_; refine gv_s ?_; refine gv_s ?_; refine gv_s ?_; refine gv_0 ?_; refine nu_int ?_; refine fz_int ?_; refine st_s ?_; refine st_s ?_; refine st_s ?_; refine st_s ?_; refine st_s ?_; refine st_s ?_; refine st_s ?_; refine st_0 ?_; refine wp_aCons ?_; refine wp_eV ?_; refine gv_s ?_; refine gv_s ?_; refine gv_s ?_; refine gv_s ?_; refine gv_s ?_; refine gv_s ?_; refine gv_s ?_; refine gv_s ?_; refine gv_0 ?_; refine nu_int ?_; refine fz_int ?_; refine st_s ?_; refine st_s ?_; refine st_s ?_; refine st_s ?_; refine st_s ?_; refine st_s ?_; refine st_s ?_; refine st_s ?_; refine st_0 ?_; refine wp_aCons ?_; refine wp_eV ?_; refine gv_s ?_; refine gv_s ?_; refine gv_s ?_; refine gv_s ?_; refine gv_s ?_; refine gv_s ?_; refine gv_s ?_; refine gv_s ?_; refine gv_s ?_; refine gv_0 ?_; refine nu_int ?_; refine fz_int ?_; refine st_s ?_; refine st_s ?_; refine st_s ?_; refine st_s ?_; refine st_s ?_; refine st_s ?_; refine st_s ?_; refine st_s ?_; refine st_s ?_; refine st_0 ?_; refine wp_aCons ?_; refine wp_eV ?_; refine gv_s ?_; refine gv_s ?_; refine gv_s ?_; refine gv_s ?_; refine gv_s ?_; refine gv_s ?_; refine gv_s ?_; refine gv_s ?_; refine gv_s ?_; refine gv_s ?_; refine gv_s ?_; refine gv_s ?_; refine gv_0 ?_; refine nu_int ?_; refine fz_int ?_; refine st_s ?_; refine st_s ?_; refine st_s ?_; refine st_s ?_; refine st_s ?_; refine st_s ?_; refine st_s ?_; refine st_s ?_; refine st_s ?_; refine st_s ?_; refine st_s ?_; refine st_s ?_; refine st_0 ?_; refine wp_aCons ?_; refine wp_eC ?_; refine wp_aNil ?_))))
  · refine fF_of (side_ok (by omega) hr hg hs hra ht hj hN (decide_eq_true (sx.ok hp))) ?_
    (with_reducible (refine pbc_n ?_; refine pbc_n ?_; refine pbc_n ?_; refine pbc_n ?_; refine pbc_n ?_; refine pbc_n ?_; refine pbc_n ?_; refine pbc_0 ?_; refine o_truB ?_; refine br_n ?_; refine br_t ?_; refine wp_sNx ?_; refine sq_nx ?_; refine wp_sRt ?_; refine wp_eOr ?_; refine wp_eBin ?_; refine wp_eV ?_; refine gv_s ?_; refine gv_s ?_; refine gv_s ?_; refine gv_s ?_; refine gv_s ?_; refine gv_s ?_; refine gv_s ?_; refine gv_s ?_; refine gv_s ?_; refine gv_s ?_; refine gv_s ?_; refine gv_s ?_; refine gv_s ?_; refine gv_s ?_; refine gv_s ?_; refine gv_0 ?_; refine nu_int ?_; refine fz_int ?_; refine st_s ?_; refine st_s ?_; refine st_s ?_; refine st_s ?_; refine st_s ?_; refine st_s ?_; refine st_s ?_; refine st_s ?_; refine st_s ?_; refine st_s ?_; refine st_s ?_; refine st_s ?_; refine st_s ?_; refine st_s ?_; refine st_s ?_; refine st_0 ?_; refine wp_eC ?_; refine o_eqI ?_; refine o_toB ?_))
    (focus (refine br_d (fun hq => ?_) (fun hq => ?_); rotate_left; (with_reducible (refine wp_eCall ?_; refine wp_aCons ?_; refine wp_eBin ?_; refine wp_eV ?_; refine gv_s ?_; refine gv_s ?_; refine gv_s ?_; refine gv_s ?_; refine gv_s ?_; refine gv_s ?_; refine gv_s ?_; refine gv_s ?_; refine gv_s ?_; refine gv_s ?_; refine gv_s ?_; refine gv_s ?_; refine gv_s ?_; refine gv_s ?_; refine gv_s ?_; refine gv_0 ?_; refine nu_int ?_; refine fz_int ?_; refine st_s ?_; refine st_s ?_; refine st_s ?_; refine st_s ?_; refine st_s ?_; refine st_s ?_; refine st_s ?_; refine st_s ?_; refine st_s ?_; refine st_s ?_; refine st_s ?_; refine st_s ?_; refine st_s ?_; refine st_s ?_; refine st_s ?_; refine st_0 ?_; refine wp_eC ?_; refine o_add ?_; refine wp_aCons ?_; refine wp_eV ?_; refine gv_s ?_; refine gv_s ?_; refine gv_0 ?_; refine nu_tup ?_; refine fz_tup ?_; refine st_s ?_; refine st_s ?_; refine st_0 ?_; refine wp_aCons ?_; refine wp_eV ?_; refine gv_s ?_; refine gv_s ?_; refine gv_s ?_; refine gv_s ?_; refine gv_s ?_; refine gv_s ?_; refine gv_s ?_; refine gv_0 ?_; refine nu_int ?_; refine fz_int ?_; refine st_s ?_; refine st_s ?_; refine st_s ?_; refine st_s ?_; refine st_s ?_; refine st_s ?_; refine st_s ?_; refine st_0 ?_; refine wp_aCons ?_; refine wp_eV ?_; refine gv_s ?_; refine gv_s ?_; refine gv_s ?_; refine gv_s ?_; refine gv_s ?_; refine gv_s ?_; refine gv_s ?_; refine gv_s ?_; refine gv_0 ?_; refine nu_int ?_; refine fz_int ?_; refine st_s ?_; refine st_s ?_; refine st_s ?_; refine st_s ?_; refine st_s ?_; refine st_s ?_; refine st_s ?_; refine st_s ?_; refine st_0 ?_; refine wp_aCons ?_; refine wp_eV ?_; refine gv_s ?_; refine gv_s ?_; refine gv_s ?_; refine gv_s ?_; refine gv_s ?_; refine gv_s ?_; refine gv_s ?_; refine gv_s ?_; refine gv_s ?_; refine gv_0 ?_; refine nu_int ?_; refine fz_int ?_; refine st_s ?_; refine st_s ?_; refine st_s ?_; refine st_s ?_; refine st_s ?_; refine st_s ?_; refine st_s ?_; refine st_s ?_; refine st_s ?_; refine st_0 ?_; refine wp_aCons ?_; refine wp_eV ?_; refine gv_s ?_; refine gv_s ?_; refine gv_s ?_; refine gv_s ?_; refine gv_s ?_; refine gv_s ?_; refine gv_s ?_; refine gv_s ?_; refine gv_s ?_; refine gv_s ?_; refine gv_s ?_; refine gv_s ?_; refine gv_0 ?_; refine nu_int ?_; refine fz_int ?_; refine st_s ?_; refine st_s ?_; refine st_s ?_; refine st_s ?_; refine st_s ?_; refine st_s ?_; refine st_s ?_; refine st_s ?_; refine st_s ?_; refine st_s ?_; refine st_s ?_; refine st_s ?_; refine st_0 ?_; refine wp_aCons ?_; refine wp_eC ?_; refine wp_aNil ?_)); rotate_left; (with_reducible (refine endF_rt (by with_unfolding_all rfl) (by with_unfolding_all rfl) ?_))))
    · rfl
    · refine fF_of (side_ok (by omega) hr hg hs hra ht hj hN (decide_eq_false (by have := sx.no (by omega); omega))) ?_
      (with_reducible (refine pbc_n ?_; refine pbc_n ?_; refine pbc_n ?_; refine pbc_n ?_; refine pbc_n ?_; refine pbc_n ?_; refine pbc_n ?_; refine pbc_0 ?_; refine endF_rt (by with_unfolding_all rfl) (by with_unfolding_all rfl) ?_))
      rfl
  · (skip)
    refine fF_of (side_ok (by omega) hr hg hs hra ht hj hN (decide_eq_false (by have := sx.no (by omega); omega))) ?_
    (with_reducible (refine pbc_n ?_; refine pbc_n ?_; refine pbc_n ?_; refine pbc_n ?_; refine pbc_n ?_; refine pbc_n ?_; refine pbc_n ?_; refine pbc_0 ?_; refine endF_rt (by with_unfolding_all rfl) (by with_unfolding_all rfl) ?_))
    rfl
end Lw

namespace Lw
open PySem PySem.Spec PyProof.Rows L2 Pm
theorem all_mk {l : PySem.W.OpenLaw} {w : World} {K : PySem.W.Frag} {h : Heap} {mg : Str → Option Value} {fa : Addr} (X : K.In h) (G : h.Ns mainGlobals mg) (hfa : mg "law" = some (.ref fa))
  {f0 : Addr} {oc0 kV0 dc0 pm0 cd0 ct0 : Value} {od0 an0 : Option Addr} {sl0 : Array (Option Value)}
  {f1 : Addr} {oc1 kV1 dc1 pm1 cd1 ct1 : Value} {od1 an1 : Option Addr} {sl1 : Array (Option Value)}
  {f2 : Addr} {oc2 kV2 dc2 pm2 cd2 ct2 : Value} {od2 an2 : Option Addr} {sl2 : Array (Option Value)}
  {f3 : Addr} {oc3 kV3 dc3 pm3 cd3 ct3 : Value} {od3 an3 : Option Addr} {sl3 : Array (Option Value)}
  {f4 : Addr} {oc4 kV4 dc4 pm4 cd4 ct4 : Value} {od4 an4 : Option Addr} {sl4 : Array (Option Value)}
  {f5 : Addr} {oc5 kV5 dc5 pm5 cd5 ct5 : Value} {od5 an5 : Option Addr} {sl5 : Array (Option Value)}
  {f6 : Addr} {oc6 kV6 dc6 pm6 cd6 ct6 : Value} {od6 an6 : Option Addr} {sl6 : Array (Option Value)}
  {f7 : Addr} {oc7 kV7 dc7 pm7 cd7 ct7 : Value} {od7 an7 : Option Addr} {sl7 : Array (Option Value)}
  {f8 : Addr} {oc8 kV8 dc8 pm8 cd8 ct8 : Value} {od8 an8 : Option Addr} {sl8 : Array (Option Value)}
  {f9 : Addr} {oc9 kV9 dc9 pm9 cd9 ct9 : Value} {od9 an9 : Option Addr} {sl9 : Array (Option Value)}
  {f10 : Addr} {oc10 kV10 dc10 pm10 cd10 ct10 : Value} {od10 an10 : Option Addr} {sl10 : Array (Option Value)}
  {f11 : Addr} {oc11 kV11 dc11 pm11 cd11 ct11 : Value} {od11 an11 : Option Addr} {sl11 : Array (Option Value)}
  {f12 : Addr} {oc12 kV12 dc12 pm12 cd12 ct12 : Value} {od12 an12 : Option Addr} {sl12 : Array (Option Value)}
  {f13 : Addr} {oc13 kV13 dc13 pm13 cd13 ct13 : Value} {od13 an13 : Option Addr} {sl13 : Array (Option Value)}
  {f14 : Addr} {oc14 kV14 dc14 pm14 cd14 ct14 : Value} {od14 an14 : Option Addr} {sl14 : Array (Option Value)}
  {f15 : Addr} {oc15 kV15 dc15 pm15 cd15 ct15 : Value} {od15 an15 : Option Addr} {sl15 : Array (Option Value)}
  {f16 : Addr} {oc16 kV16 dc16 pm16 cd16 ct16 : Value} {od16 an16 : Option Addr} {sl16 : Array (Option Value)}
  {f17 : Addr} {oc17 kV17 dc17 pm17 cd17 ct17 : Value} {od17 an17 : Option Addr} {sl17 : Array (Option Value)}
  {f18 : Addr} {oc18 kV18 dc18 pm18 cd18 ct18 : Value} {od18 an18 : Option Addr} {sl18 : Array (Option Value)}
  {f19 : Addr} {oc19 kV19 dc19 pm19 cd19 ct19 : Value} {od19 an19 : Option Addr} {sl19 : Array (Option Value)}
  {f20 : Addr} {oc20 kV20 dc20 pm20 cd20 ct20 : Value} {od20 an20 : Option Addr} {sl20 : Array (Option Value)}
  {f21 : Addr} {oc21 kV21 dc21 pm21 cd21 ct21 : Value} {od21 an21 : Option Addr} {sl21 : Array (Option Value)}
  {f22 : Addr} {oc22 kV22 dc22 pm22 cd22 ct22 : Value} {od22 an22 : Option Addr} {sl22 : Array (Option Value)}
  {f23 : Addr} {oc23 kV23 dc23 pm23 cd23 ct23 : Value} {od23 an23 : Option Addr} {sl23 : Array (Option Value)}
  {f24 : Addr} {oc24 kV24 dc24 pm24 cd24 ct24 : Value} {od24 an24 : Option Addr} {sl24 : Array (Option Value)}
  {f25 : Addr} {oc25 kV25 dc25 pm25 cd25 ct25 : Value} {od25 an25 : Option Addr} {sl25 : Array (Option Value)}
  {f26 : Addr} {oc26 dc26 pm26 cd26 ct26 : Value} {od26 an26 : Option Addr} {sl26 : Array (Option Value)} {kD26 : Addr}
  {f27 : Addr} {oc27 kV27 dc27 pm27 cd27 ct27 : Value} {od27 an27 : Option Addr} {sl27 : Array (Option Value)}
  {C0 : Addr}
  {C1 : Addr}
  {C2 : Addr}
  {tk0 : Tok}
  {tk1 : Tok}
  {ctk0 : Tok}
  {X0 : Addr}
  {xnm0 xq0 : Str} {xN0 xi0 xcc0 xcd0 : Addr} {xbs0 xbm0 xsub0 : List Value} {xsn0 : List Str} {xab0 : Bool} {xcol0 : Option Bool} {xdd0 xod0 xcdd0 xcld0 : Option Addr} {xk00 xk10 xk20 xk30 xk50 : Option Value} {xdoc0 xpm0 xct0 xoc0 xccl0 xcl0 : Value} {xosl0 xccs0 xcsl0 : Array (Option Value)} {xvf0 : Array Value} {xfile0 : Str} {xtf0 : Tok} {xcdD0 : ClassData}
  {X1 : Addr}
  {xnm1 xq1 : Str} {xN1 xi1 xcc1 xcd1 : Addr} {xbs1 xbm1 xsub1 : List Value} {xsn1 : List Str} {xab1 : Bool} {xcol1 : Option Bool} {xdd1 xod1 xcdd1 xcld1 : Option Addr} {xk01 xk11 xk21 xk31 xk51 : Option Value} {xdoc1 xpm1 xct1 xoc1 xccl1 xcl1 : Value} {xosl1 xccs1 xcsl1 : Array (Option Value)} {xvf1 : Array Value} {xfile1 : Str} {xtf1 : Tok} {xcdD1 : ClassData}
  {X2 : Addr}
  {xnm2 xq2 : Str} {xN2 xi2 xcc2 xcd2 : Addr} {xbs2 xbm2 xsub2 : List Value} {xsn2 : List Str} {xab2 : Bool} {xcol2 : Option Bool} {xdd2 xod2 xcdd2 xcld2 : Option Addr} {xk02 xk12 xk22 xk32 xk52 : Option Value} {xdoc2 xpm2 xct2 xoc2 xccl2 xcl2 : Value} {xosl2 xccs2 xcsl2 : Array (Option Value)} {xvf2 : Array Value} {xfile2 : Str} {xtf2 : Tok} {xcdD2 : ClassData}
  {X3 : Addr}
  {xnm3 xq3 : Str} {xN3 xi3 xcc3 xcd3 : Addr} {xbs3 xbm3 xsub3 : List Value} {xsn3 : List Str} {xab3 : Bool} {xcol3 : Option Bool} {xdd3 xod3 xcdd3 xcld3 : Option Addr} {xk03 xk13 xk23 xk33 xk53 : Option Value} {xdoc3 xpm3 xct3 xoc3 xccl3 xcl3 : Value} {xosl3 xccs3 xcsl3 : Array (Option Value)} {xvf3 : Array Value} {xfile3 : Str} {xtf3 : Tok} {xcdD3 : ClassData}
  (aC0 : PySem.W.nsIn K mainGlobals "Rule" = some (some (.ref C0)))
  (aC1 : PySem.W.nsIn K mainGlobals "Channel" = some (some (.ref C1)))
  (aC2 : PySem.W.nsIn K mainGlobals "Lifetime" = some (some (.ref C2)))
  (a0 : PySem.W.findIn K (.ref C1) "fields" = some (some (.ref f0)))
  (i0 : PySem.W.isFn K (.ref f0) = true)
  (l0 : K.lookup f0 = some ⟨oc0, od0, .func (PySem.W.fnOf "fields" "Channel.fields" (defArgs s_f_Channel_fields) (defBody s_f_Channel_fields) (defScope s_f_Channel_fields) .none kV0 dc0 pm0 an0 cd0 ct0), sl0⟩)
  (c0 : PySem.W.codeIn K cd0 "Channel.fields" = true)
  (k0 : PySem.W.keepIn K (.ref f0) = true)
  (a1 : PySem.W.findIn K (.ref C2) "__init__" = some (some (.ref f1)))
  (i1 : PySem.W.isFn K (.ref f1) = true)
  (l1 : K.lookup f1 = some ⟨oc1, od1, .func (PySem.W.fnOf "__init__" "Lifetime.__init__" (defArgs s_f_Lifetime_init) (defBody s_f_Lifetime_init) (defScope s_f_Lifetime_init) .none kV1 dc1 pm1 an1 cd1 ct1), sl1⟩)
  (c1 : PySem.W.codeIn K cd1 "Lifetime.__init__" = true)
  (k1 : PySem.W.keepIn K (.ref f1) = true)
  (a2 : PySem.W.findIn K (.ref C0) "fields" = some (some (.ref f2)))
  (i2 : PySem.W.isFn K (.ref f2) = true)
  (l2 : K.lookup f2 = some ⟨oc2, od2, .func (PySem.W.fnOf "fields" "Rule.fields" (defArgs s_f_Rule_fields) (defBody s_f_Rule_fields) (defScope s_f_Rule_fields) .none kV2 dc2 pm2 an2 cd2 ct2), sl2⟩)
  (c2 : PySem.W.codeIn K cd2 "Rule.fields" = true)
  (k2 : PySem.W.keepIn K (.ref f2) = true)
  (a3 : PySem.W.nsIn K mainGlobals "_law_least" = some (some (.ref f3)))
  (l3 : K.lookup f3 = some ⟨oc3, od3, .func (PySem.W.fnOf "_law_least" "_law_least" (defArgs s_f_law_least) (defBody s_f_law_least) (defScope s_f_law_least) .none kV3 dc3 pm3 an3 cd3 ct3), sl3⟩)
  (c3 : PySem.W.codeIn K cd3 "_law_least" = true)
  (k3 : PySem.W.keepIn K (.ref f3) = true)
  (a4 : PySem.W.nsIn K mainGlobals "_law_life_drawn" = some (some (.ref f4)))
  (l4 : K.lookup f4 = some ⟨oc4, od4, .func (PySem.W.fnOf "_law_life_drawn" "_law_life_drawn" (defArgs s_f_law_life_drawn) (defBody s_f_law_life_drawn) (defScope s_f_law_life_drawn) .none kV4 dc4 pm4 an4 cd4 ct4), sl4⟩)
  (c4 : PySem.W.codeIn K cd4 "_law_life_drawn" = true)
  (k4 : PySem.W.keepIn K (.ref f4) = true)
  (a5 : PySem.W.nsIn K mainGlobals "_law_like" = some (some (.ref f5)))
  (l5 : K.lookup f5 = some ⟨oc5, od5, .func (PySem.W.fnOf "_law_like" "_law_like" (defArgs s_f_law_like) (defBody s_f_law_like) (defScope s_f_law_like) .none kV5 dc5 pm5 an5 cd5 ct5), sl5⟩)
  (c5 : PySem.W.codeIn K cd5 "_law_like" = true)
  (k5 : PySem.W.keepIn K (.ref f5) = true)
  (a6 : PySem.W.nsIn K mainGlobals "_law_cell" = some (some (.ref f6)))
  (l6 : K.lookup f6 = some ⟨oc6, od6, .func (PySem.W.fnOf "_law_cell" "_law_cell" (defArgs s_f_law_cell) (defBody s_f_law_cell) (defScope s_f_law_cell) .none kV6 dc6 pm6 an6 cd6 ct6), sl6⟩)
  (c6 : PySem.W.codeIn K cd6 "_law_cell" = true)
  (k6 : PySem.W.keepIn K (.ref f6) = true)
  (a7 : PySem.W.nsIn K mainGlobals "_law_mix" = some (some (.ref f7)))
  (l7 : K.lookup f7 = some ⟨oc7, od7, .func (PySem.W.fnOf "_law_mix" "_law_mix" (defArgs s_f_law_mix) (defBody s_f_law_mix) (defScope s_f_law_mix) .none kV7 dc7 pm7 an7 cd7 ct7), sl7⟩)
  (c7 : PySem.W.codeIn K cd7 "_law_mix" = true)
  (k7 : PySem.W.keepIn K (.ref f7) = true)
  (a8 : PySem.W.nsIn K mainGlobals "_law_numbers" = some (some (.ref f8)))
  (l8 : K.lookup f8 = some ⟨oc8, od8, .func (PySem.W.fnOf "_law_numbers" "_law_numbers" (defArgs s_f_law_numbers) (defBody s_f_law_numbers) (defScope s_f_law_numbers) .none kV8 dc8 pm8 an8 cd8 ct8), sl8⟩)
  (c8 : PySem.W.codeIn K cd8 "_law_numbers" = true)
  (k8 : PySem.W.keepIn K (.ref f8) = true)
  (a9 : PySem.W.nsIn K mainGlobals "_law_rule_drawn" = some (some (.ref f9)))
  (l9 : K.lookup f9 = some ⟨oc9, od9, .func (PySem.W.fnOf "_law_rule_drawn" "_law_rule_drawn" (defArgs s_f_law_rule_drawn) (defBody s_f_law_rule_drawn) (defScope s_f_law_rule_drawn) .none kV9 dc9 pm9 an9 cd9 ct9), sl9⟩)
  (c9 : PySem.W.codeIn K cd9 "_law_rule_drawn" = true)
  (k9 : PySem.W.keepIn K (.ref f9) = true)
  (a10 : PySem.W.nsIn K mainGlobals "group_of" = some (some (.ref f10)))
  (l10 : K.lookup f10 = some ⟨oc10, od10, .func (PySem.W.fnOf "group_of" "group_of" (defArgs s_f_group_of) (defBody s_f_group_of) (defScope s_f_group_of) .none kV10 dc10 pm10 an10 cd10 ct10), sl10⟩)
  (c10 : PySem.W.codeIn K cd10 "group_of" = true)
  (k10 : PySem.W.keepIn K (.ref f10) = true)
  (a11 : PySem.W.findIn K (.ref C0) "__init__" = some (some (.ref f11)))
  (i11 : PySem.W.isFn K (.ref f11) = true)
  (l11 : K.lookup f11 = some ⟨oc11, od11, .func (PySem.W.fnOf "__init__" "Rule.__init__" (defArgs s_f_Rule_init) (defBody s_f_Rule_init) (defScope s_f_Rule_init) .none kV11 dc11 pm11 an11 cd11 ct11), sl11⟩)
  (c11 : PySem.W.codeIn K cd11 "Rule.__init__" = true)
  (k11 : PySem.W.keepIn K (.ref f11) = true)
  (a12 : PySem.W.nsIn K mainGlobals "_law_longest" = some (some (.ref f12)))
  (l12 : K.lookup f12 = some ⟨oc12, od12, .func (PySem.W.fnOf "_law_longest" "_law_longest" (defArgs s_f_law_longest) (defBody s_f_law_longest) (defScope s_f_law_longest) .none kV12 dc12 pm12 an12 cd12 ct12), sl12⟩)
  (c12 : PySem.W.codeIn K cd12 "_law_longest" = true)
  (k12 : PySem.W.keepIn K (.ref f12) = true)
  (a13 : PySem.W.nsIn K mainGlobals "resends_base" = some (some (.ref f13)))
  (l13 : K.lookup f13 = some ⟨oc13, od13, .func (PySem.W.fnOf "resends_base" "resends_base" (defArgs s_f_resends_base) (defBody s_f_resends_base) (defScope s_f_resends_base) .none kV13 dc13 pm13 an13 cd13 ct13), sl13⟩)
  (c13 : PySem.W.codeIn K cd13 "resends_base" = true)
  (k13 : PySem.W.keepIn K (.ref f13) = true)
  (a14 : PySem.W.nsIn K mainGlobals "gain_of" = some (some (.ref f14)))
  (l14 : K.lookup f14 = some ⟨oc14, od14, .func (PySem.W.fnOf "gain_of" "gain_of" (defArgs s_f_gain_of) (defBody s_f_gain_of) (defScope s_f_gain_of) .none kV14 dc14 pm14 an14 cd14 ct14), sl14⟩)
  (c14 : PySem.W.codeIn K cd14 "gain_of" = true)
  (k14 : PySem.W.keepIn K (.ref f14) = true)
  (a15 : PySem.W.nsIn K mainGlobals "growth" = some (some (.ref f15)))
  (l15 : K.lookup f15 = some ⟨oc15, od15, .func (PySem.W.fnOf "growth" "growth" (defArgs s_f_growth) (defBody s_f_growth) (defScope s_f_growth) .none kV15 dc15 pm15 an15 cd15 ct15), sl15⟩)
  (c15 : PySem.W.codeIn K cd15 "growth" = true)
  (k15 : PySem.W.keepIn K (.ref f15) = true)
  (a16 : PySem.W.nsIn K mainGlobals "reach_of" = some (some (.ref f16)))
  (l16 : K.lookup f16 = some ⟨oc16, od16, .func (PySem.W.fnOf "reach_of" "reach_of" (defArgs s_f_reach_of) (defBody s_f_reach_of) (defScope s_f_reach_of) .none kV16 dc16 pm16 an16 cd16 ct16), sl16⟩)
  (c16 : PySem.W.codeIn K cd16 "reach_of" = true)
  (k16 : PySem.W.keepIn K (.ref f16) = true)
  (a17 : PySem.W.nsIn K mainGlobals "least_by_formula" = some (some (.ref f17)))
  (l17 : K.lookup f17 = some ⟨oc17, od17, .func (PySem.W.fnOf "least_by_formula" "least_by_formula" (defArgs s_f_least_by_formula) (defBody s_f_least_by_formula) (defScope s_f_least_by_formula) .none kV17 dc17 pm17 an17 cd17 ct17), sl17⟩)
  (c17 : PySem.W.codeIn K cd17 "least_by_formula" = true)
  (k17 : PySem.W.keepIn K (.ref f17) = true)
  (a18 : PySem.W.findIn K (.ref C1) "__init__" = some (some (.ref f18)))
  (i18 : PySem.W.isFn K (.ref f18) = true)
  (l18 : K.lookup f18 = some ⟨oc18, od18, .func (PySem.W.fnOf "__init__" "Channel.__init__" (defArgs s_f_Channel_init) (defBody s_f_Channel_init) (defScope s_f_Channel_init) .none kV18 dc18 pm18 an18 cd18 ct18), sl18⟩)
  (c18 : PySem.W.codeIn K cd18 "Channel.__init__" = true)
  (k18 : PySem.W.keepIn K (.ref f18) = true)
  (a19 : PySem.W.nsIn K mainGlobals "lag" = some (some (.ref f19)))
  (l19 : K.lookup f19 = some ⟨oc19, od19, .func (PySem.W.fnOf "lag" "lag" (defArgs s_f_lag) (defBody s_f_lag) (defScope s_f_lag) .none kV19 dc19 pm19 an19 cd19 ct19), sl19⟩)
  (c19 : PySem.W.codeIn K cd19 "lag" = true)
  (k19 : PySem.W.keepIn K (.ref f19) = true)
  (a20 : PySem.W.nsIn K mainGlobals "lifetime_channel" = some (some (.ref f20)))
  (l20 : K.lookup f20 = some ⟨oc20, od20, .func (PySem.W.fnOf "lifetime_channel" "lifetime_channel" (defArgs s_f_lifetime_channel) (defBody s_f_lifetime_channel) (defScope s_f_lifetime_channel) .none kV20 dc20 pm20 an20 cd20 ct20), sl20⟩)
  (c20 : PySem.W.codeIn K cd20 "lifetime_channel" = true)
  (k20 : PySem.W.keepIn K (.ref f20) = true)
  (a21 : PySem.W.nsIn K mainGlobals "least_for_lifetime" = some (some (.ref f21)))
  (l21 : K.lookup f21 = some ⟨oc21, od21, .func (PySem.W.fnOf "least_for_lifetime" "least_for_lifetime" (defArgs s_f_least_for_lifetime) (defBody s_f_least_for_lifetime) (defScope s_f_least_for_lifetime) .none kV21 dc21 pm21 an21 cd21 ct21), sl21⟩)
  (c21 : PySem.W.codeIn K cd21 "least_for_lifetime" = true)
  (k21 : PySem.W.keepIn K (.ref f21) = true)
  (a22 : PySem.W.nsIn K mainGlobals "check_numbers" = some (some (.ref f22)))
  (l22 : K.lookup f22 = some ⟨oc22, od22, .func (PySem.W.fnOf "check_numbers" "check_numbers" (defArgs s_f_check_numbers) (defBody s_f_check_numbers) (defScope s_f_check_numbers) .none kV22 dc22 pm22 an22 cd22 ct22), sl22⟩)
  (c22 : PySem.W.codeIn K cd22 "check_numbers" = true)
  (k22 : PySem.W.keepIn K (.ref f22) = true)
  (a23 : PySem.W.nsIn K mainGlobals "longest_lifetime" = some (some (.ref f23)))
  (l23 : K.lookup f23 = some ⟨oc23, od23, .func (PySem.W.fnOf "longest_lifetime" "longest_lifetime" (defArgs s_f_longest_lifetime) (defBody s_f_longest_lifetime) (defScope s_f_longest_lifetime) .none kV23 dc23 pm23 an23 cd23 ct23), sl23⟩)
  (c23 : PySem.W.codeIn K cd23 "longest_lifetime" = true)
  (k23 : PySem.W.keepIn K (.ref f23) = true)
  (a24 : PySem.W.nsIn K mainGlobals "_law_side" = some (some (.ref f24)))
  (l24 : K.lookup f24 = some ⟨oc24, od24, .func (PySem.W.fnOf "_law_side" "_law_side" (defArgs s_f_law_side) (defBody s_f_law_side) (defScope s_f_law_side) .none kV24 dc24 pm24 an24 cd24 ct24), sl24⟩)
  (c24 : PySem.W.codeIn K cd24 "_law_side" = true)
  (k24 : PySem.W.keepIn K (.ref f24) = true)
  (a25 : PySem.W.nsIn K mainGlobals "_law_window" = some (some (.ref f25)))
  (l25 : K.lookup f25 = some ⟨oc25, od25, .func (PySem.W.fnOf "_law_window" "_law_window" (defArgs s_f_law_window) (defBody s_f_law_window) (defScope s_f_law_window) .none kV25 dc25 pm25 an25 cd25 ct25), sl25⟩)
  (c25 : PySem.W.codeIn K cd25 "_law_window" = true)
  (k25 : PySem.W.keepIn K (.ref f25) = true)
  (a26 : PySem.W.nsIn K mainGlobals "largest_window" = some (some (.ref f26)))
  (l26 : K.lookup f26 = some ⟨oc26, od26, .func (PySem.W.fnOf "largest_window" "largest_window" (defArgs s_f_largest_window) (defBody s_f_largest_window) (defScope s_f_largest_window) .none (.ref kD26) dc26 pm26 an26 cd26 ct26), sl26⟩)
  (c26 : PySem.W.codeIn K cd26 "largest_window" = true)
  (k26 : PySem.W.keepIn K (.ref f26) = true)
  (a27 : PySem.W.nsIn K mainGlobals "law" = some (some (.ref f27)))
  (l27 : K.lookup f27 = some ⟨oc27, od27, .func (PySem.W.fnOf "law" "law" (defArgs s_f_law) (defBody s_f_law) (defScope s_f_law) .none kV27 dc27 pm27 an27 cd27 ct27), sl27⟩)
  (c27 : PySem.W.codeIn K cd27 "law" = true)
  (k27 : PySem.W.keepIn K (.ref f27) = true)
  (pg0 : PySem.W.plainGet K C0 Str.empty = true)
  (hd0 : PySem.W.hasDictIn K C0 = true)
  (po0 : PySem.W.plainOver K C0 = true)
  (sa0 : PySem.W.findIn K (.ref C0) "__setattr__" = some (some (.builtin "object.__setattr__")))
  (mk0 : PySem.W.makesIn K C0 = true)
  (kc0 : PySem.W.keepIn K (.ref C0) = true)
  (n0_0 : PySem.W.findIn K (.ref C0) "w" = some none)
  (n0_1 : PySem.W.findIn K (.ref C0) "r" = some none)
  (n0_2 : PySem.W.findIn K (.ref C0) "acks" = some none)
  (n0_3 : PySem.W.findIn K (.ref C0) "resend" = some none)
  (n0_4 : PySem.W.findIn K (.ref C0) "group" = some none)
  (pg1 : PySem.W.plainGet K C1 Str.empty = true)
  (hd1 : PySem.W.hasDictIn K C1 = true)
  (po1 : PySem.W.plainOver K C1 = true)
  (sa1 : PySem.W.findIn K (.ref C1) "__setattr__" = some (some (.builtin "object.__setattr__")))
  (mk1 : PySem.W.makesIn K C1 = true)
  (kc1 : PySem.W.keepIn K (.ref C1) = true)
  (n1_0 : PySem.W.findIn K (.ref C1) "k" = some none)
  (n1_1 : PySem.W.findIn K (.ref C1) "j" = some none)
  (pg2 : PySem.W.plainGet K C2 Str.empty = true)
  (hd2 : PySem.W.hasDictIn K C2 = true)
  (po2 : PySem.W.plainOver K C2 = true)
  (sa2 : PySem.W.findIn K (.ref C2) "__setattr__" = some (some (.builtin "object.__setattr__")))
  (rd2 : PySem.W.readsIn K C2 (.type "type") = true)
  (mk2 : PySem.W.makesIn K C2 = true)
  (kc2 : PySem.W.keepIn K (.ref C2) = true)
  (n2_0 : PySem.W.findIn K (.ref C2) "ticks" = some none)
  (n2_1 : PySem.W.findIn K (.ref C2) "rate" = some none)
  (fv0 : PySem.W.findIn K (.ref C2) "MOST_TICKS" = some (some (.int 1000 ctk0)))
  (cv0 : PySem.W.findCls K (.ref C2) (.type "type") "MOST_TICKS" = some (.val (.int 1000 ctk0)))
  (ih0 : PySem.W.findIn K (.ref C0) "__class__" = some (some (.builtin "object.__class__")))
  (im0 : PySem.W.mroIn K C0 (.type "object") = some true)
  (ih1 : PySem.W.findIn K (.ref C1) "__class__" = some (some (.builtin "object.__class__")))
  (im1 : PySem.W.mroIn K C1 (.type "object") = some true)
  (ic1 : (PySem.W.clsIn K C1).isSome = true)
  (it1 : PySem.W.typeIn K (.ref C1) = some (.type "type"))
  (ih2 : PySem.W.findIn K (.ref C2) "__class__" = some (some (.builtin "object.__class__")))
  (im2 : PySem.W.mroIn K C2 (.type "object") = some true)
  (ic2 : (PySem.W.clsIn K C2).isSome = true)
  (it2 : PySem.W.typeIn K (.ref C2) = some (.type "type"))
  (is0_1 : PySem.W.subIn K (.ref C0) (.ref C1) = some false)
  (iz0_1 : C0 ≠ C1)
  (is0_2 : PySem.W.subIn K (.ref C0) (.ref C2) = some false)
  (iz0_2 : C0 ≠ C2)
  (is1_2 : PySem.W.subIn K (.ref C1) (.ref C2) = some false)
  (iz1_2 : C1 ≠ C2)
  (is2_1 : PySem.W.subIn K (.ref C2) (.ref C1) = some false)
  (iz2_1 : C2 ≠ C1)
  (u0 : PySem.W.nsIn K mainGlobals "MOST_NUMBERS" = some (some (.int 2000000 tk0)))
  (u1 : PySem.W.nsIn K mainGlobals "MOST_SIZE" = some (some (.int 1000 tk1)))
  (sup : PySem.W.nsIn K mainGlobals "super" = some none)
  (thp : PySem.W.nsIn K cStatics "thirdparty.any" = some none)
  (stp : (l.prog.main.scope.names.lookup ("super" : Str)).isSome = false)
  (eG0 : PySem.W.nsIn K mainGlobals "BadRule" = some (some (.ref X0)))
  (eL0 : K.lookup X0 = some (excClassObj xnm0 xq0 X0 xN0 xbs0 xbm0 true xsn0 xsub0 xab0 xcol0 xdd0 xk00 xk10 xk20 xk30 xk50 "ValueError.__new__"))
  (eR0 : PySem.HandSPX.refsVE xbm0 = true)
  (eS0 : PySem.W.findIn K (.ref X0) "__setattr__" = some (some (.builtin "object.__setattr__")))
  (eB0 : PySem.W.subIn K (.ref X0) (.type "BaseException") = some true)
  (eT0 : PySem.W.typeIn K (.ref X0) = some (.type "type"))
  (eK0 : PySem.W.keepIn K (.ref X0) = true)
  (eI0 : PySem.W.findIn K (.ref X0) "__init__" = some (some (.ref xi0)))
  (eF0 : PySem.W.typeIn K (.ref xi0) = some (.type "function"))
  (el0 : K.lookup xi0 = some ⟨xoc0, xod0, .func ((supNF "__init__" "BadRule.__init__" (defArgs (inClass (top 8) 0)) (defBody (inClass (top 8) 0)) (defScope (inClass (top 8) 0)) xcc0 xcd0).fd xdoc0 xpm0 xct0), xosl0⟩)
  (ec0 : PySem.W.codeIn K (.ref xcd0) "BadRule.__init__" = true)
  (eo0 : K.lookup xcd0 = some ⟨xccl0, xcdd0, .fields xvf0, xccs0⟩)
  (ev0 : xvf0[2]? = some (.str xfile0 xtf0))
  (ef0 : ((l.prog.main.file : Str) == xfile0) = true)
  (ee0 : K.lookup xcc0 = some ⟨xcl0, xcld0, .cell (some (.ref X0)), xcsl0⟩)
  (ed0 : PySem.W.clsIn K X0 = some xcdD0)
  (em0 : PySem.W.mroIn K X0 (.ref X0) = some true)
  (es0 : PySem.W.ks_superIn K X0 X0 "__init__" = some (some (.builtin "ValueError.__init__")))
  (eV0 : PySem.W.subIn K (.ref X0) (.type "ValueError") = some true)
  (eg0 : PySem.W.findIn K (.ref X0) "__getattribute__" = some (some (.builtin "BaseException.__getattribute__")))
  (eh0 : PySem.W.findIn K (.ref X0) "__getattr__" = some none)
  (eD0 : PySem.W.hasDictIn K X0 = true)
  (ea0 : PySem.W.findIn K (.ref X0) "__class__" = some (some (.builtin "object.__class__")))
  (eM0 : PySem.W.mroIn K X0 (.type "object") = some true)
  (en0_0 : PySem.W.findIn K (.ref X0) "place" = some none)
  (eG1 : PySem.W.nsIn K mainGlobals "BadChannel" = some (some (.ref X1)))
  (eL1 : K.lookup X1 = some (excClassObj xnm1 xq1 X1 xN1 xbs1 xbm1 true xsn1 xsub1 xab1 xcol1 xdd1 xk01 xk11 xk21 xk31 xk51 "ValueError.__new__"))
  (eR1 : PySem.HandSPX.refsVE xbm1 = true)
  (eS1 : PySem.W.findIn K (.ref X1) "__setattr__" = some (some (.builtin "object.__setattr__")))
  (eB1 : PySem.W.subIn K (.ref X1) (.type "BaseException") = some true)
  (eT1 : PySem.W.typeIn K (.ref X1) = some (.type "type"))
  (eK1 : PySem.W.keepIn K (.ref X1) = true)
  (eI1 : PySem.W.findIn K (.ref X1) "__init__" = some (some (.ref xi1)))
  (eF1 : PySem.W.typeIn K (.ref xi1) = some (.type "function"))
  (el1 : K.lookup xi1 = some ⟨xoc1, xod1, .func ((supNF "__init__" "BadChannel.__init__" (defArgs (inClass (top 9) 0)) (defBody (inClass (top 9) 0)) (defScope (inClass (top 9) 0)) xcc1 xcd1).fd xdoc1 xpm1 xct1), xosl1⟩)
  (ec1 : PySem.W.codeIn K (.ref xcd1) "BadChannel.__init__" = true)
  (eo1 : K.lookup xcd1 = some ⟨xccl1, xcdd1, .fields xvf1, xccs1⟩)
  (ev1 : xvf1[2]? = some (.str xfile1 xtf1))
  (ef1 : ((l.prog.main.file : Str) == xfile1) = true)
  (ee1 : K.lookup xcc1 = some ⟨xcl1, xcld1, .cell (some (.ref X1)), xcsl1⟩)
  (ed1 : PySem.W.clsIn K X1 = some xcdD1)
  (em1 : PySem.W.mroIn K X1 (.ref X1) = some true)
  (es1 : PySem.W.ks_superIn K X1 X1 "__init__" = some (some (.builtin "ValueError.__init__")))
  (eV1 : PySem.W.subIn K (.ref X1) (.type "ValueError") = some true)
  (eg1 : PySem.W.findIn K (.ref X1) "__getattribute__" = some (some (.builtin "BaseException.__getattribute__")))
  (eh1 : PySem.W.findIn K (.ref X1) "__getattr__" = some none)
  (eD1 : PySem.W.hasDictIn K X1 = true)
  (ea1 : PySem.W.findIn K (.ref X1) "__class__" = some (some (.builtin "object.__class__")))
  (eM1 : PySem.W.mroIn K X1 (.type "object") = some true)
  (en1_0 : PySem.W.findIn K (.ref X1) "place" = some none)
  (eG2 : PySem.W.nsIn K mainGlobals "BadNumbers" = some (some (.ref X2)))
  (eL2 : K.lookup X2 = some (excClassObj xnm2 xq2 X2 xN2 xbs2 xbm2 true xsn2 xsub2 xab2 xcol2 xdd2 xk02 xk12 xk22 xk32 xk52 "ValueError.__new__"))
  (eR2 : PySem.HandSPX.refsVE xbm2 = true)
  (eS2 : PySem.W.findIn K (.ref X2) "__setattr__" = some (some (.builtin "object.__setattr__")))
  (eB2 : PySem.W.subIn K (.ref X2) (.type "BaseException") = some true)
  (eT2 : PySem.W.typeIn K (.ref X2) = some (.type "type"))
  (eK2 : PySem.W.keepIn K (.ref X2) = true)
  (eI2 : PySem.W.findIn K (.ref X2) "__init__" = some (some (.ref xi2)))
  (eF2 : PySem.W.typeIn K (.ref xi2) = some (.type "function"))
  (el2 : K.lookup xi2 = some ⟨xoc2, xod2, .func ((supNF "__init__" "BadNumbers.__init__" (defArgs (inClass (top 10) 0)) (defBody (inClass (top 10) 0)) (defScope (inClass (top 10) 0)) xcc2 xcd2).fd xdoc2 xpm2 xct2), xosl2⟩)
  (ec2 : PySem.W.codeIn K (.ref xcd2) "BadNumbers.__init__" = true)
  (eo2 : K.lookup xcd2 = some ⟨xccl2, xcdd2, .fields xvf2, xccs2⟩)
  (ev2 : xvf2[2]? = some (.str xfile2 xtf2))
  (ef2 : ((l.prog.main.file : Str) == xfile2) = true)
  (ee2 : K.lookup xcc2 = some ⟨xcl2, xcld2, .cell (some (.ref X2)), xcsl2⟩)
  (ed2 : PySem.W.clsIn K X2 = some xcdD2)
  (em2 : PySem.W.mroIn K X2 (.ref X2) = some true)
  (es2 : PySem.W.ks_superIn K X2 X2 "__init__" = some (some (.builtin "ValueError.__init__")))
  (eV2 : PySem.W.subIn K (.ref X2) (.type "ValueError") = some true)
  (eg2 : PySem.W.findIn K (.ref X2) "__getattribute__" = some (some (.builtin "BaseException.__getattribute__")))
  (eh2 : PySem.W.findIn K (.ref X2) "__getattr__" = some none)
  (eD2 : PySem.W.hasDictIn K X2 = true)
  (ea2 : PySem.W.findIn K (.ref X2) "__class__" = some (some (.builtin "object.__class__")))
  (eM2 : PySem.W.mroIn K X2 (.type "object") = some true)
  (en2_0 : PySem.W.findIn K (.ref X2) "numbers" = some none)
  (eG3 : PySem.W.nsIn K mainGlobals "BadLifetime" = some (some (.ref X3)))
  (eL3 : K.lookup X3 = some (excClassObj xnm3 xq3 X3 xN3 xbs3 xbm3 true xsn3 xsub3 xab3 xcol3 xdd3 xk03 xk13 xk23 xk33 xk53 "ValueError.__new__"))
  (eR3 : PySem.HandSPX.refsVE xbm3 = true)
  (eS3 : PySem.W.findIn K (.ref X3) "__setattr__" = some (some (.builtin "object.__setattr__")))
  (eB3 : PySem.W.subIn K (.ref X3) (.type "BaseException") = some true)
  (eT3 : PySem.W.typeIn K (.ref X3) = some (.type "type"))
  (eK3 : PySem.W.keepIn K (.ref X3) = true)
  (eI3 : PySem.W.findIn K (.ref X3) "__init__" = some (some (.ref xi3)))
  (eF3 : PySem.W.typeIn K (.ref xi3) = some (.type "function"))
  (el3 : K.lookup xi3 = some ⟨xoc3, xod3, .func ((supNF "__init__" "BadLifetime.__init__" (defArgs (inClass (top 11) 0)) (defBody (inClass (top 11) 0)) (defScope (inClass (top 11) 0)) xcc3 xcd3).fd xdoc3 xpm3 xct3), xosl3⟩)
  (ec3 : PySem.W.codeIn K (.ref xcd3) "BadLifetime.__init__" = true)
  (eo3 : K.lookup xcd3 = some ⟨xccl3, xcdd3, .fields xvf3, xccs3⟩)
  (ev3 : xvf3[2]? = some (.str xfile3 xtf3))
  (ef3 : ((l.prog.main.file : Str) == xfile3) = true)
  (ee3 : K.lookup xcc3 = some ⟨xcl3, xcld3, .cell (some (.ref X3)), xcsl3⟩)
  (ed3 : PySem.W.clsIn K X3 = some xcdD3)
  (em3 : PySem.W.mroIn K X3 (.ref X3) = some true)
  (es3 : PySem.W.ks_superIn K X3 X3 "__init__" = some (some (.builtin "ValueError.__init__")))
  (eV3 : PySem.W.subIn K (.ref X3) (.type "ValueError") = some true)
  (eg3 : PySem.W.findIn K (.ref X3) "__getattribute__" = some (some (.builtin "BaseException.__getattribute__")))
  (eh3 : PySem.W.findIn K (.ref X3) "__getattr__" = some none)
  (eD3 : PySem.W.hasDictIn K X3 = true)
  (ea3 : PySem.W.findIn K (.ref X3) "__class__" = some (some (.builtin "object.__class__")))
  (eM3 : PySem.W.mroIn K X3 (.type "object") = some true)
  (en3_0 : PySem.W.findIn K (.ref X3) "place" = some none)
  (eP : PySem.W.specialIn K (.builtin "object.__class__") "__get__" = some (some (.builtin "getset_descriptor.__get__")))
  (eQ : PySem.W.takesIn K (.builtin "object.__class__") = some true)
  (z0 : PySem.W.nsIn K mainGlobals "abs" = some none)
  (z1 : PySem.W.nsIn K mainGlobals "bool" = some none)
  (z2 : PySem.W.nsIn K mainGlobals "int" = some none)
  (z3 : PySem.W.nsIn K mainGlobals "isinstance" = some none)
  (z4 : PySem.W.nsIn K mainGlobals "len" = some none)
  (z5 : PySem.W.nsIn K mainGlobals "list" = some none)
  (z6 : PySem.W.nsIn K mainGlobals "max" = some none)
  (z7 : PySem.W.nsIn K mainGlobals "min" = some none)
  (z8 : PySem.W.nsIn K mainGlobals "range" = some none)
  (z9 : PySem.W.nsIn K mainGlobals "str" = some none)
  (z10 : PySem.W.nsIn K mainGlobals "tuple" = some none) :
    ∃ fd : FuncData, (∀ (s : Shared) (v : Value), BindsTo s fd ⟨[v], []⟩ [("script", v)]) ∧ ∀ base : Heap, K.In base → base.Ns mainGlobals mg → FnOk l.prog w K mg base (L2.CX l.prog w) 11 fa fd ["script"] (spLaw K) := by
  have e := hfa.symm.trans (PySem.W.mg_of X G a27)
  cases e
  have F0 := fun_mk (st := s_f_Channel_fields) l0 c0 k0
  have b0 := F0.binds (ps := ["self"]) fun _ _ _ _ _ _ us hl => match us, hl with | [_], _ => rfl
  have F1 := fun_mk (st := s_f_Lifetime_init) l1 c1 k1
  have b1 := F1.binds (ps := ["self", "ticks", "rate"]) fun _ _ _ _ _ _ us hl => match us, hl with | [_, _, _], _ => rfl
  have F2 := fun_mk (st := s_f_Rule_fields) l2 c2 k2
  have b2 := F2.binds (ps := ["self"]) fun _ _ _ _ _ _ us hl => match us, hl with | [_], _ => rfl
  have F3 := fun_mk (st := s_f_law_least) l3 c3 k3
  have b3 := F3.binds (ps := ["w", "room", "group", "backs", "again", "k", "j"]) fun _ _ _ _ _ _ us hl => match us, hl with | [_, _, _, _, _, _, _], _ => rfl
  have F4 := fun_mk (st := s_f_law_life_drawn) l4 c4 k4
  have b4 := F4.binds (ps := ["row"]) fun _ _ _ _ _ _ us hl => match us, hl with | [_], _ => rfl
  have F5 := fun_mk (st := s_f_law_like) l5 c5 k5
  have b5 := F5.binds (ps := ["told", "due"]) fun _ _ _ _ _ _ us hl => match us, hl with | [_, _], _ => rfl
  have F6 := fun_mk (st := s_f_law_cell) l6 c6 k6
  have b6 := F6.binds (ps := ["script", "k"]) fun _ _ _ _ _ _ us hl => match us, hl with | [_, _], _ => rfl
  have F7 := fun_mk (st := s_f_law_mix) l7 c7 k7
  have b7 := F7.binds (ps := ["seed", "k"]) fun _ _ _ _ _ _ us hl => match us, hl with | [_, _], _ => rfl
  have F8 := fun_mk (st := s_f_law_numbers) l8 c8 k8
  have b8 := F8.binds (ps := ["script", "at", "many"]) fun _ _ _ _ _ _ us hl => match us, hl with | [_, _, _], _ => rfl
  have F9 := fun_mk (st := s_f_law_rule_drawn) l9 c9 k9
  have b9 := F9.binds (ps := ["row"]) fun _ _ _ _ _ _ us hl => match us, hl with | [_], _ => rfl
  have F10 := fun_mk (st := s_f_group_of) l10 c10 k10
  have b10 := F10.binds (ps := ["acks"]) fun _ _ _ _ _ _ us hl => match us, hl with | [_], _ => rfl
  have F11 := fun_mk (st := s_f_Rule_init) l11 c11 k11
  have b11 := F11.binds (ps := ["self", "w", "r", "acks", "resend"]) fun _ _ _ _ _ _ us hl => match us, hl with | [_, _, _, _, _], _ => rfl
  have F12 := fun_mk (st := s_f_law_longest) l12 c12 k12
  have b12 := F12.binds (ps := ["size", "room", "group", "kind", "again", "rate", "j", "numbers"]) fun _ _ _ _ _ _ us hl => match us, hl with | [_, _, _, _, _, _, _, _], _ => rfl
  have F13 := fun_mk (st := s_f_resends_base) l13 c13 k13
  have b13 := F13.binds (ps := ["rule"]) fun _ _ _ _ _ _ us hl => match us, hl with | [_], _ => rfl
  have F14 := fun_mk (st := s_f_gain_of) l14 c14 k14
  have b14 := F14.binds (ps := ["rule", "channel"]) fun _ _ _ _ _ _ us hl => match us, hl with | [_, _], _ => rfl
  have F15 := fun_mk (st := s_f_growth) l15 c15 k15
  have b15 := F15.binds (ps := ["rule", "channel"]) fun _ _ _ _ _ _ us hl => match us, hl with | [_, _], _ => rfl
  have F16 := fun_mk (st := s_f_reach_of) l16 c16 k16
  have b16 := F16.binds (ps := ["rule"]) fun _ _ _ _ _ _ us hl => match us, hl with | [_], _ => rfl
  have F17 := fun_mk (st := s_f_least_by_formula) l17 c17 k17
  have b17 := F17.binds (ps := ["rule", "channel"]) fun _ _ _ _ _ _ us hl => match us, hl with | [_, _], _ => rfl
  have F18 := fun_mk (st := s_f_Channel_init) l18 c18 k18
  have b18 := F18.binds (ps := ["self", "k", "j"]) fun _ _ _ _ _ _ us hl => match us, hl with | [_, _, _], _ => rfl
  have F19 := fun_mk (st := s_f_lag) l19 c19 k19
  have b19 := F19.binds (ps := ["lifetime"]) fun _ _ _ _ _ _ us hl => match us, hl with | [_], _ => rfl
  have F20 := fun_mk (st := s_f_lifetime_channel) l20 c20 k20
  have b20 := F20.binds (ps := ["lifetime", "j"]) fun _ _ _ _ _ _ us hl => match us, hl with | [_, _], _ => rfl
  have F21 := fun_mk (st := s_f_least_for_lifetime) l21 c21 k21
  have b21 := F21.binds (ps := ["rule", "lifetime", "j"]) fun _ _ _ _ _ _ us hl => match us, hl with | [_, _, _], _ => rfl
  have F22 := fun_mk (st := s_f_check_numbers) l22 c22 k22
  have b22 := F22.binds (ps := ["numbers"]) fun _ _ _ _ _ _ us hl => match us, hl with | [_], _ => rfl
  have F23 := fun_mk (st := s_f_longest_lifetime) l23 c23 k23
  have b23 := F23.binds (ps := ["rule", "rate", "j", "numbers"]) fun _ _ _ _ _ _ us hl => match us, hl with | [_, _, _, _], _ => rfl
  have F24 := fun_mk (st := s_f_law_side) l24 c24 k24
  have b24 := F24.binds (ps := ["size", "drawn", "ticks", "rate", "j", "numbers", "fits"]) fun _ _ _ _ _ _ us hl => match us, hl with | [_, _, _, _, _, _, _], _ => rfl
  have F25 := fun_mk (st := s_f_law_window) l25 c25 k25
  have b25 := F25.binds (ps := ["room", "group", "kind", "again", "k", "j", "numbers"]) fun _ _ _ _ _ _ us hl => match us, hl with | [_, _, _, _, _, _, _], _ => rfl
  have F26 := fun_mk (st := s_f_largest_window) l26 c26 k26
  have F27 := fun_mk (st := s_f_law) l27 c27 k27
  have b27 := F27.binds (ps := ["script"]) fun _ _ _ _ _ _ us hl => match us, hl with | [_], _ => rfl
  have T : Tx K mg { a_f_Channel_fields := f0, d_f_Channel_fields := PySem.W.fnOf "fields" "Channel.fields" (defArgs s_f_Channel_fields) (defBody s_f_Channel_fields) (defScope s_f_Channel_fields) .none kV0 dc0 pm0 an0 cd0 ct0, a_f_Lifetime_init := f1, d_f_Lifetime_init := PySem.W.fnOf "__init__" "Lifetime.__init__" (defArgs s_f_Lifetime_init) (defBody s_f_Lifetime_init) (defScope s_f_Lifetime_init) .none kV1 dc1 pm1 an1 cd1 ct1, a_f_Rule_fields := f2, d_f_Rule_fields := PySem.W.fnOf "fields" "Rule.fields" (defArgs s_f_Rule_fields) (defBody s_f_Rule_fields) (defScope s_f_Rule_fields) .none kV2 dc2 pm2 an2 cd2 ct2, a_f_law_least := f3, d_f_law_least := PySem.W.fnOf "_law_least" "_law_least" (defArgs s_f_law_least) (defBody s_f_law_least) (defScope s_f_law_least) .none kV3 dc3 pm3 an3 cd3 ct3, a_f_law_life_drawn := f4, d_f_law_life_drawn := PySem.W.fnOf "_law_life_drawn" "_law_life_drawn" (defArgs s_f_law_life_drawn) (defBody s_f_law_life_drawn) (defScope s_f_law_life_drawn) .none kV4 dc4 pm4 an4 cd4 ct4, a_f_law_like := f5, d_f_law_like := PySem.W.fnOf "_law_like" "_law_like" (defArgs s_f_law_like) (defBody s_f_law_like) (defScope s_f_law_like) .none kV5 dc5 pm5 an5 cd5 ct5, a_f_law_cell := f6, d_f_law_cell := PySem.W.fnOf "_law_cell" "_law_cell" (defArgs s_f_law_cell) (defBody s_f_law_cell) (defScope s_f_law_cell) .none kV6 dc6 pm6 an6 cd6 ct6, a_f_law_mix := f7, d_f_law_mix := PySem.W.fnOf "_law_mix" "_law_mix" (defArgs s_f_law_mix) (defBody s_f_law_mix) (defScope s_f_law_mix) .none kV7 dc7 pm7 an7 cd7 ct7, a_f_law_numbers := f8, d_f_law_numbers := PySem.W.fnOf "_law_numbers" "_law_numbers" (defArgs s_f_law_numbers) (defBody s_f_law_numbers) (defScope s_f_law_numbers) .none kV8 dc8 pm8 an8 cd8 ct8, a_f_law_rule_drawn := f9, d_f_law_rule_drawn := PySem.W.fnOf "_law_rule_drawn" "_law_rule_drawn" (defArgs s_f_law_rule_drawn) (defBody s_f_law_rule_drawn) (defScope s_f_law_rule_drawn) .none kV9 dc9 pm9 an9 cd9 ct9, a_f_group_of := f10, d_f_group_of := PySem.W.fnOf "group_of" "group_of" (defArgs s_f_group_of) (defBody s_f_group_of) (defScope s_f_group_of) .none kV10 dc10 pm10 an10 cd10 ct10, a_f_Rule_init := f11, d_f_Rule_init := PySem.W.fnOf "__init__" "Rule.__init__" (defArgs s_f_Rule_init) (defBody s_f_Rule_init) (defScope s_f_Rule_init) .none kV11 dc11 pm11 an11 cd11 ct11, a_f_law_longest := f12, d_f_law_longest := PySem.W.fnOf "_law_longest" "_law_longest" (defArgs s_f_law_longest) (defBody s_f_law_longest) (defScope s_f_law_longest) .none kV12 dc12 pm12 an12 cd12 ct12, a_f_resends_base := f13, d_f_resends_base := PySem.W.fnOf "resends_base" "resends_base" (defArgs s_f_resends_base) (defBody s_f_resends_base) (defScope s_f_resends_base) .none kV13 dc13 pm13 an13 cd13 ct13, a_f_gain_of := f14, d_f_gain_of := PySem.W.fnOf "gain_of" "gain_of" (defArgs s_f_gain_of) (defBody s_f_gain_of) (defScope s_f_gain_of) .none kV14 dc14 pm14 an14 cd14 ct14, a_f_growth := f15, d_f_growth := PySem.W.fnOf "growth" "growth" (defArgs s_f_growth) (defBody s_f_growth) (defScope s_f_growth) .none kV15 dc15 pm15 an15 cd15 ct15, a_f_reach_of := f16, d_f_reach_of := PySem.W.fnOf "reach_of" "reach_of" (defArgs s_f_reach_of) (defBody s_f_reach_of) (defScope s_f_reach_of) .none kV16 dc16 pm16 an16 cd16 ct16, a_f_least_by_formula := f17, d_f_least_by_formula := PySem.W.fnOf "least_by_formula" "least_by_formula" (defArgs s_f_least_by_formula) (defBody s_f_least_by_formula) (defScope s_f_least_by_formula) .none kV17 dc17 pm17 an17 cd17 ct17, a_f_Channel_init := f18, d_f_Channel_init := PySem.W.fnOf "__init__" "Channel.__init__" (defArgs s_f_Channel_init) (defBody s_f_Channel_init) (defScope s_f_Channel_init) .none kV18 dc18 pm18 an18 cd18 ct18, a_f_lag := f19, d_f_lag := PySem.W.fnOf "lag" "lag" (defArgs s_f_lag) (defBody s_f_lag) (defScope s_f_lag) .none kV19 dc19 pm19 an19 cd19 ct19, a_f_lifetime_channel := f20, d_f_lifetime_channel := PySem.W.fnOf "lifetime_channel" "lifetime_channel" (defArgs s_f_lifetime_channel) (defBody s_f_lifetime_channel) (defScope s_f_lifetime_channel) .none kV20 dc20 pm20 an20 cd20 ct20, a_f_least_for_lifetime := f21, d_f_least_for_lifetime := PySem.W.fnOf "least_for_lifetime" "least_for_lifetime" (defArgs s_f_least_for_lifetime) (defBody s_f_least_for_lifetime) (defScope s_f_least_for_lifetime) .none kV21 dc21 pm21 an21 cd21 ct21, a_f_check_numbers := f22, d_f_check_numbers := PySem.W.fnOf "check_numbers" "check_numbers" (defArgs s_f_check_numbers) (defBody s_f_check_numbers) (defScope s_f_check_numbers) .none kV22 dc22 pm22 an22 cd22 ct22, a_f_longest_lifetime := f23, d_f_longest_lifetime := PySem.W.fnOf "longest_lifetime" "longest_lifetime" (defArgs s_f_longest_lifetime) (defBody s_f_longest_lifetime) (defScope s_f_longest_lifetime) .none kV23 dc23 pm23 an23 cd23 ct23, a_f_law_side := f24, d_f_law_side := PySem.W.fnOf "_law_side" "_law_side" (defArgs s_f_law_side) (defBody s_f_law_side) (defScope s_f_law_side) .none kV24 dc24 pm24 an24 cd24 ct24, a_f_law_window := f25, d_f_law_window := PySem.W.fnOf "_law_window" "_law_window" (defArgs s_f_law_window) (defBody s_f_law_window) (defScope s_f_law_window) .none kV25 dc25 pm25 an25 cd25 ct25, a_f_largest_window := f26, d_f_largest_window := PySem.W.fnOf "largest_window" "largest_window" (defArgs s_f_largest_window) (defBody s_f_largest_window) (defScope s_f_largest_window) .none (.ref kD26) dc26 pm26 an26 cd26 ct26, a_f_law := fa, d_f_law := PySem.W.fnOf "law" "law" (defArgs s_f_law) (defBody s_f_law) (defScope s_f_law) .none kV27 dc27 pm27 an27 cd27 ct27, c_Rule := C0, c_Channel := C1, c_Lifetime := C2, c_BadRule := X0, xi_BadRule := xi0, xd_BadRule := (supNF "__init__" "BadRule.__init__" (defArgs (inClass (top 8) 0)) (defBody (inClass (top 8) 0)) (defScope (inClass (top 8) 0)) xcc0 xcd0).fd xdoc0 xpm0 xct0, c_BadChannel := X1, xi_BadChannel := xi1, xd_BadChannel := (supNF "__init__" "BadChannel.__init__" (defArgs (inClass (top 9) 0)) (defBody (inClass (top 9) 0)) (defScope (inClass (top 9) 0)) xcc1 xcd1).fd xdoc1 xpm1 xct1, c_BadNumbers := X2, xi_BadNumbers := xi2, xd_BadNumbers := (supNF "__init__" "BadNumbers.__init__" (defArgs (inClass (top 10) 0)) (defBody (inClass (top 10) 0)) (defScope (inClass (top 10) 0)) xcc2 xcd2).fd xdoc2 xpm2 xct2, c_BadLifetime := X3, xi_BadLifetime := xi3, xd_BadLifetime := (supNF "__init__" "BadLifetime.__init__" (defArgs (inClass (top 11) 0)) (defBody (inClass (top 11) 0)) (defScope (inClass (top 11) 0)) xcc3 xcd3).fd xdoc3 xpm3 xct3 } := { f_f_Channel_fields := F0, b_f_Channel_fields := b0, k_f_Channel_fields := k0, me_f_Channel_fields := ⟨a0, i0, k0⟩, f_f_Lifetime_init := F1, b_f_Lifetime_init := b1, k_f_Lifetime_init := k1, f_f_Rule_fields := F2, b_f_Rule_fields := b2, k_f_Rule_fields := k2, me_f_Rule_fields := ⟨a2, i2, k2⟩, f_f_law_least := F3, b_f_law_least := b3, k_f_law_least := k3, g_f_law_least := PySem.W.mg_of X G a3, f_f_law_life_drawn := F4, b_f_law_life_drawn := b4, k_f_law_life_drawn := k4, g_f_law_life_drawn := PySem.W.mg_of X G a4, f_f_law_like := F5, b_f_law_like := b5, k_f_law_like := k5, g_f_law_like := PySem.W.mg_of X G a5, f_f_law_cell := F6, b_f_law_cell := b6, k_f_law_cell := k6, g_f_law_cell := PySem.W.mg_of X G a6, f_f_law_mix := F7, b_f_law_mix := b7, k_f_law_mix := k7, g_f_law_mix := PySem.W.mg_of X G a7, f_f_law_numbers := F8, b_f_law_numbers := b8, k_f_law_numbers := k8, g_f_law_numbers := PySem.W.mg_of X G a8, f_f_law_rule_drawn := F9, b_f_law_rule_drawn := b9, k_f_law_rule_drawn := k9, g_f_law_rule_drawn := PySem.W.mg_of X G a9, f_f_group_of := F10, b_f_group_of := b10, k_f_group_of := k10, g_f_group_of := PySem.W.mg_of X G a10, f_f_Rule_init := F11, b_f_Rule_init := b11, k_f_Rule_init := k11, f_f_law_longest := F12, b_f_law_longest := b12, k_f_law_longest := k12, g_f_law_longest := PySem.W.mg_of X G a12, f_f_resends_base := F13, b_f_resends_base := b13, k_f_resends_base := k13, g_f_resends_base := PySem.W.mg_of X G a13, f_f_gain_of := F14, b_f_gain_of := b14, k_f_gain_of := k14, g_f_gain_of := PySem.W.mg_of X G a14, f_f_growth := F15, b_f_growth := b15, k_f_growth := k15, g_f_growth := PySem.W.mg_of X G a15, f_f_reach_of := F16, b_f_reach_of := b16, k_f_reach_of := k16, g_f_reach_of := PySem.W.mg_of X G a16, f_f_least_by_formula := F17, b_f_least_by_formula := b17, k_f_least_by_formula := k17, g_f_least_by_formula := PySem.W.mg_of X G a17, f_f_Channel_init := F18, b_f_Channel_init := b18, k_f_Channel_init := k18, f_f_lag := F19, b_f_lag := b19, k_f_lag := k19, g_f_lag := PySem.W.mg_of X G a19, f_f_lifetime_channel := F20, b_f_lifetime_channel := b20, k_f_lifetime_channel := k20, g_f_lifetime_channel := PySem.W.mg_of X G a20, f_f_least_for_lifetime := F21, b_f_least_for_lifetime := b21, k_f_least_for_lifetime := k21, g_f_least_for_lifetime := PySem.W.mg_of X G a21, f_f_check_numbers := F22, b_f_check_numbers := b22, k_f_check_numbers := k22, g_f_check_numbers := PySem.W.mg_of X G a22, f_f_longest_lifetime := F23, b_f_longest_lifetime := b23, k_f_longest_lifetime := k23, g_f_longest_lifetime := PySem.W.mg_of X G a23, f_f_law_side := F24, b_f_law_side := b24, k_f_law_side := k24, g_f_law_side := PySem.W.mg_of X G a24, f_f_law_window := F25, b_f_law_window := b25, k_f_law_window := k25, g_f_law_window := PySem.W.mg_of X G a25, f_f_largest_window := F26, k_f_largest_window := k26, g_f_largest_window := PySem.W.mg_of X G a26, f_f_law := F27, b_f_law := b27, k_f_law := k27, g_f_law := PySem.W.mg_of X G a27, cls_Rule := ⟨pg0, hd0, po0, sa0⟩, g_Rule := PySem.W.mg_of X G aC0, ins_Rule := insC_mk ⟨pg0, hd0, po0, sa0⟩ ih0 eP eQ im0, kc_Rule_Channel := ⟨ic1, it1, is0_1, fun z => (iz0_1 z).elim⟩, kc_Rule_Lifetime := ⟨ic2, it2, is0_2, fun z => (iz0_2 z).elim⟩, mk_Rule := ⟨mk0, a11, i11, kc0⟩, na_Rule_w := n0_0, na_Rule_r := n0_1, na_Rule_acks := n0_2, na_Rule_resend := n0_3, na_Rule_group := n0_4, cls_Channel := ⟨pg1, hd1, po1, sa1⟩, g_Channel := PySem.W.mg_of X G aC1, ins_Channel := insC_mk ⟨pg1, hd1, po1, sa1⟩ ih1 eP eQ im1, kc_Channel_Lifetime := ⟨ic2, it2, is1_2, fun z => (iz1_2 z).elim⟩, mk_Channel := ⟨mk1, a18, i18, kc1⟩, na_Channel_k := n1_0, na_Channel_j := n1_1, cls_Lifetime := ⟨pg2, hd2, po2, sa2⟩, g_Lifetime := PySem.W.mg_of X G aC2, cr_Lifetime := cread_mk rd2, cv_Lifetime_MOST_TICKS := ⟨_, cv0, ⟨_, rfl⟩⟩, ins_Lifetime := insC_mk ⟨pg2, hd2, po2, sa2⟩ ih2 eP eQ im2, kc_Lifetime_Channel := ⟨ic1, it1, is2_1, fun z => (iz2_1 z).elim⟩, mk_Lifetime := ⟨mk2, a1, i1, kc2⟩, na_Lifetime_ticks := n2_0, na_Lifetime_rate := n2_1, g_BadRule := PySem.W.mg_of X G eG0, xo_BadRule := ⟨⟨_, _, _, _, _, _, _, _, _, _, _, _, _, _, _, eL0, eR0⟩, eS0, eB0, eT0, eK0⟩, xn_BadRule := eI0, xt_BadRule := eF0, xb_BadRule := (fun s us _ hl => match us, hl with | [_, _], _ => .of_eq rfl), xf_BadRule := ⟨eg0, eh0, eB0, eD0⟩, xe_BadRule := ⟨eg0, eh0, eB0, eD0, ea0, eP, eQ, eM0⟩, xv_BadRule := eV0, xa_BadRule_place := en0_0, g_BadChannel := PySem.W.mg_of X G eG1, xo_BadChannel := ⟨⟨_, _, _, _, _, _, _, _, _, _, _, _, _, _, _, eL1, eR1⟩, eS1, eB1, eT1, eK1⟩, xn_BadChannel := eI1, xt_BadChannel := eF1, xb_BadChannel := (fun s us _ hl => match us, hl with | [_, _], _ => .of_eq rfl), xf_BadChannel := ⟨eg1, eh1, eB1, eD1⟩, xe_BadChannel := ⟨eg1, eh1, eB1, eD1, ea1, eP, eQ, eM1⟩, xv_BadChannel := eV1, xa_BadChannel_place := en1_0, g_BadNumbers := PySem.W.mg_of X G eG2, xo_BadNumbers := ⟨⟨_, _, _, _, _, _, _, _, _, _, _, _, _, _, _, eL2, eR2⟩, eS2, eB2, eT2, eK2⟩, xn_BadNumbers := eI2, xt_BadNumbers := eF2, xb_BadNumbers := (fun s us _ hl => match us, hl with | [_, _], _ => .of_eq rfl), xf_BadNumbers := ⟨eg2, eh2, eB2, eD2⟩, xe_BadNumbers := ⟨eg2, eh2, eB2, eD2, ea2, eP, eQ, eM2⟩, xv_BadNumbers := eV2, xa_BadNumbers_numbers := en2_0, g_BadLifetime := PySem.W.mg_of X G eG3, xo_BadLifetime := ⟨⟨_, _, _, _, _, _, _, _, _, _, _, _, _, _, _, eL3, eR3⟩, eS3, eB3, eT3, eK3⟩, xn_BadLifetime := eI3, xt_BadLifetime := eF3, xb_BadLifetime := (fun s us _ hl => match us, hl with | [_, _], _ => .of_eq rfl), xf_BadLifetime := ⟨eg3, eh3, eB3, eD3⟩, xe_BadLifetime := ⟨eg3, eh3, eB3, eD3, ea3, eP, eQ, eM3⟩, xv_BadLifetime := eV3, xa_BadLifetime_place := en3_0, con_MOST_NUMBERS := ⟨_, PySem.W.mg_of X G u0, ⟨_, rfl⟩⟩, con_MOST_SIZE := ⟨_, PySem.W.mg_of X G u1, ⟨_, rfl⟩⟩, g_abs := PySem.W.mg_none_of X G z0, g_bool := PySem.W.mg_none_of X G z1, g_int := PySem.W.mg_none_of X G z2, g_isinstance := PySem.W.mg_none_of X G z3, g_len := PySem.W.mg_none_of X G z4, g_list := PySem.W.mg_none_of X G z5, g_max := PySem.W.mg_none_of X G z6, g_min := PySem.W.mg_none_of X G z7, g_range := PySem.W.mg_none_of X G z8, g_str := PySem.W.mg_none_of X G z9, g_tuple := PySem.W.mg_none_of X G z10, kb_f_largest_window_2_r_acks_resend := kb_all [.inl 0, .inl 1, .inl 2] fun us ws h1 h2 => match us, ws, h1, h2 with | [_, _], [_, _, _], _, _ => rfl }
  exact ⟨_, fun s v => .of_eq rfl, fun base _ _ => law_sp (all T (gx_BadRule el0 ec0 eo0 ev0 ef0 ee0 ed0 em0 (PySem.W.mg_none_of X G sup) thp es0 eV0 stp (List.forall_mem_cons.mpr ⟨en0_0, (fun _ h => nomatch h)⟩)) (gx_BadChannel el1 ec1 eo1 ev1 ef1 ee1 ed1 em1 (PySem.W.mg_none_of X G sup) thp es1 eV1 stp (List.forall_mem_cons.mpr ⟨en1_0, (fun _ h => nomatch h)⟩)) (gx_BadNumbers el2 ec2 eo2 ev2 ef2 ee2 ed2 em2 (PySem.W.mg_none_of X G sup) thp es2 eV2 stp (List.forall_mem_cons.mpr ⟨en2_0, (fun _ h => nomatch h)⟩)) (gx_BadLifetime el3 ec3 eo3 ev3 ef3 ee3 ed3 em3 (PySem.W.mg_none_of X G sup) thp es3 eV3 stp (List.forall_mem_cons.mpr ⟨en3_0, (fun _ h => nomatch h)⟩))) law_true⟩
end Lw

open PySem PySem.W PyProof.Rows in
set_option maxRecDepth 100000 in
set_option maxHeartbeats 0 in
theorem PySem.Challenge.cw_numbersenough_k89_windows_for_lifetimes_holds : PySem.Challenge.rw_numbersenough_k89_windows_for_lifetimes.Holds := by
  w_on; o_law; k_head; (case hw => w_witness2)
  k_fill
  refine Pm.walk (l := PySem.Challenge.rw_numbersenough_k89_windows_for_lifetimes) (k := 11) rfl rfl ⟨rfl, by decide, by decide⟩ (fun w h Y => PySem.W.kIn_of Y) ?F
  case F =>
    intro w mg fa h KX G hmg
    refine' Lw.all_mk KX G hmg ?aC0 ?aC1 ?aC2 ?a0 ?i0 ?l0 ?c0 ?k0 ?a1 ?i1 ?l1 ?c1 ?k1 ?a2 ?i2 ?l2 ?c2 ?k2 ?a3 ?l3 ?c3 ?k3 ?a4 ?l4 ?c4 ?k4 ?a5 ?l5 ?c5 ?k5 ?a6 ?l6 ?c6 ?k6 ?a7 ?l7 ?c7 ?k7 ?a8 ?l8 ?c8 ?k8 ?a9 ?l9 ?c9 ?k9 ?a10 ?l10 ?c10 ?k10 ?a11 ?i11 ?l11 ?c11 ?k11 ?a12 ?l12 ?c12 ?k12 ?a13 ?l13 ?c13 ?k13 ?a14 ?l14 ?c14 ?k14 ?a15 ?l15 ?c15 ?k15 ?a16 ?l16 ?c16 ?k16 ?a17 ?l17 ?c17 ?k17 ?a18 ?i18 ?l18 ?c18 ?k18 ?a19 ?l19 ?c19 ?k19 ?a20 ?l20 ?c20 ?k20 ?a21 ?l21 ?c21 ?k21 ?a22 ?l22 ?c22 ?k22 ?a23 ?l23 ?c23 ?k23 ?a24 ?l24 ?c24 ?k24 ?a25 ?l25 ?c25 ?k25 ?a26 ?l26 ?c26 ?k26 ?a27 ?l27 ?c27 ?k27 ?pg0 ?hd0 ?po0 ?sa0 ?mk0 ?kc0 ?n0_0 ?n0_1 ?n0_2 ?n0_3 ?n0_4 ?pg1 ?hd1 ?po1 ?sa1 ?mk1 ?kc1 ?n1_0 ?n1_1 ?pg2 ?hd2 ?po2 ?sa2 ?rd2 ?mk2 ?kc2 ?n2_0 ?n2_1 ?fv0 ?cv0 ?ih0 ?im0 ?ih1 ?im1 ?ic1 ?it1 ?ih2 ?im2 ?ic2 ?it2 ?is0_1 ?iz0_1 ?is0_2 ?iz0_2 ?is1_2 ?iz1_2 ?is2_1 ?iz2_1 ?u0 ?u1 ?sup ?thp ?stp ?eG0 ?eL0 ?eR0 ?eS0 ?eB0 ?eT0 ?eK0 ?eI0 ?eF0 ?el0 ?ec0 ?eo0 ?ev0 ?ef0 ?ee0 ?ed0 ?em0 ?es0 ?eV0 ?eg0 ?eh0 ?eD0 ?ea0 ?eM0 ?en0_0 ?eG1 ?eL1 ?eR1 ?eS1 ?eB1 ?eT1 ?eK1 ?eI1 ?eF1 ?el1 ?ec1 ?eo1 ?ev1 ?ef1 ?ee1 ?ed1 ?em1 ?es1 ?eV1 ?eg1 ?eh1 ?eD1 ?ea1 ?eM1 ?en1_0 ?eG2 ?eL2 ?eR2 ?eS2 ?eB2 ?eT2 ?eK2 ?eI2 ?eF2 ?el2 ?ec2 ?eo2 ?ev2 ?ef2 ?ee2 ?ed2 ?em2 ?es2 ?eV2 ?eg2 ?eh2 ?eD2 ?ea2 ?eM2 ?en2_0 ?eG3 ?eL3 ?eR3 ?eS3 ?eB3 ?eT3 ?eK3 ?eI3 ?eF3 ?el3 ?ec3 ?eo3 ?ev3 ?ef3 ?ee3 ?ed3 ?em3 ?es3 ?eV3 ?eg3 ?eh3 ?eD3 ?ea3 ?eM3 ?en3_0 ?eP ?eQ ?z0 ?z1 ?z2 ?z3 ?z4 ?z5 ?z6 ?z7 ?z8 ?z9 ?z10
    (case aC0 => k_is)
    (case aC1 => k_is)
    (case aC2 => k_is)
    (case a0 => k_is)
    (case i0 => k_is)
    (case l0 => k_is)
    (case c0 => k_is)
    (case k0 => k_is)
    (case a1 => k_is)
    (case i1 => k_is)
    (case l1 => k_is)
    (case c1 => k_is)
    (case k1 => k_is)
    (case a2 => k_is)
    (case i2 => k_is)
    (case l2 => k_is)
    (case c2 => k_is)
    (case k2 => k_is)
    (case a3 => k_is)
    (case l3 => k_is)
    (case c3 => k_is)
    (case k3 => k_is)
    (case a4 => k_is)
    (case l4 => k_is)
    (case c4 => k_is)
    (case k4 => k_is)
    (case a5 => k_is)
    (case l5 => k_is)
    (case c5 => k_is)
    (case k5 => k_is)
    (case a6 => k_is)
    (case l6 => k_is)
    (case c6 => k_is)
    (case k6 => k_is)
    (case a7 => k_is)
    (case l7 => k_is)
    (case c7 => k_is)
    (case k7 => k_is)
    (case a8 => k_is)
    (case l8 => k_is)
    (case c8 => k_is)
    (case k8 => k_is)
    (case a9 => k_is)
    (case l9 => k_is)
    (case c9 => k_is)
    (case k9 => k_is)
    (case a10 => k_is)
    (case l10 => k_is)
    (case c10 => k_is)
    (case k10 => k_is)
    (case a11 => k_is)
    (case i11 => k_is)
    (case l11 => k_is)
    (case c11 => k_is)
    (case k11 => k_is)
    (case a12 => k_is)
    (case l12 => k_is)
    (case c12 => k_is)
    (case k12 => k_is)
    (case a13 => k_is)
    (case l13 => k_is)
    (case c13 => k_is)
    (case k13 => k_is)
    (case a14 => k_is)
    (case l14 => k_is)
    (case c14 => k_is)
    (case k14 => k_is)
    (case a15 => k_is)
    (case l15 => k_is)
    (case c15 => k_is)
    (case k15 => k_is)
    (case a16 => k_is)
    (case l16 => k_is)
    (case c16 => k_is)
    (case k16 => k_is)
    (case a17 => k_is)
    (case l17 => k_is)
    (case c17 => k_is)
    (case k17 => k_is)
    (case a18 => k_is)
    (case i18 => k_is)
    (case l18 => k_is)
    (case c18 => k_is)
    (case k18 => k_is)
    (case a19 => k_is)
    (case l19 => k_is)
    (case c19 => k_is)
    (case k19 => k_is)
    (case a20 => k_is)
    (case l20 => k_is)
    (case c20 => k_is)
    (case k20 => k_is)
    (case a21 => k_is)
    (case l21 => k_is)
    (case c21 => k_is)
    (case k21 => k_is)
    (case a22 => k_is)
    (case l22 => k_is)
    (case c22 => k_is)
    (case k22 => k_is)
    (case a23 => k_is)
    (case l23 => k_is)
    (case c23 => k_is)
    (case k23 => k_is)
    (case a24 => k_is)
    (case l24 => k_is)
    (case c24 => k_is)
    (case k24 => k_is)
    (case a25 => k_is)
    (case l25 => k_is)
    (case c25 => k_is)
    (case k25 => k_is)
    (case a26 => k_is)
    (case l26 => k_is)
    (case c26 => k_is)
    (case k26 => k_is)
    (case a27 => k_is)
    (case l27 => k_is)
    (case c27 => k_is)
    (case k27 => k_is)
    (case pg0 => k_is)
    (case hd0 => k_is)
    (case po0 => k_is)
    (case sa0 => k_is)
    (case mk0 => k_is)
    (case kc0 => k_is)
    (case n0_0 => k_is)
    (case n0_1 => k_is)
    (case n0_2 => k_is)
    (case n0_3 => k_is)
    (case n0_4 => k_is)
    (case pg1 => k_is)
    (case hd1 => k_is)
    (case po1 => k_is)
    (case sa1 => k_is)
    (case mk1 => k_is)
    (case kc1 => k_is)
    (case n1_0 => k_is)
    (case n1_1 => k_is)
    (case pg2 => k_is)
    (case hd2 => k_is)
    (case po2 => k_is)
    (case sa2 => k_is)
    (case rd2 => kernel_rfl)
    (case mk2 => k_is)
    (case kc2 => k_is)
    (case n2_0 => k_is)
    (case n2_1 => k_is)
    (case fv0 => k_is)
    (case cv0 => kernel_rfl)
    (case ih0 => k_is)
    (case im0 => k_is)
    (case ih1 => k_is)
    (case im1 => k_is)
    (case ic1 => kernel_rfl)
    (case it1 => k_is)
    (case ih2 => k_is)
    (case im2 => k_is)
    (case ic2 => kernel_rfl)
    (case it2 => k_is)
    (case is0_1 => k_is)
    (case iz0_1 => decide)
    (case is0_2 => k_is)
    (case iz0_2 => decide)
    (case is1_2 => k_is)
    (case iz1_2 => decide)
    (case is2_1 => k_is)
    (case iz2_1 => decide)
    (case u0 => k_is)
    (case u1 => k_is)
    (case sup => k_is)
    (case thp => k_is)
    (case stp => first | rfl | decide +kernel)
    (case eG0 => k_is)
    (case eL0 => k_is)
    (case eR0 => decide +kernel)
    (case eS0 => k_is)
    (case eB0 => k_is)
    (case eT0 => k_is)
    (case eK0 => k_is)
    (case eI0 => k_is)
    (case eF0 => k_is)
    (case el0 => k_is)
    (case ec0 => k_is)
    (case eo0 => k_is)
    (case ev0 => rfl)
    (case ef0 => first | rfl | decide +kernel)
    (case ee0 => k_is)
    (case ed0 => k_is)
    (case em0 => k_is)
    (case es0 => ks_is)
    (case eV0 => k_is)
    (case eg0 => k_is)
    (case eh0 => k_is)
    (case eD0 => k_is)
    (case ea0 => k_is)
    (case eM0 => k_is)
    (case en0_0 => k_is)
    (case eG1 => k_is)
    (case eL1 => k_is)
    (case eR1 => decide +kernel)
    (case eS1 => k_is)
    (case eB1 => k_is)
    (case eT1 => k_is)
    (case eK1 => k_is)
    (case eI1 => k_is)
    (case eF1 => k_is)
    (case el1 => k_is)
    (case ec1 => k_is)
    (case eo1 => k_is)
    (case ev1 => rfl)
    (case ef1 => first | rfl | decide +kernel)
    (case ee1 => k_is)
    (case ed1 => k_is)
    (case em1 => k_is)
    (case es1 => ks_is)
    (case eV1 => k_is)
    (case eg1 => k_is)
    (case eh1 => k_is)
    (case eD1 => k_is)
    (case ea1 => k_is)
    (case eM1 => k_is)
    (case en1_0 => k_is)
    (case eG2 => k_is)
    (case eL2 => k_is)
    (case eR2 => decide +kernel)
    (case eS2 => k_is)
    (case eB2 => k_is)
    (case eT2 => k_is)
    (case eK2 => k_is)
    (case eI2 => k_is)
    (case eF2 => k_is)
    (case el2 => k_is)
    (case ec2 => k_is)
    (case eo2 => k_is)
    (case ev2 => rfl)
    (case ef2 => first | rfl | decide +kernel)
    (case ee2 => k_is)
    (case ed2 => k_is)
    (case em2 => k_is)
    (case es2 => ks_is)
    (case eV2 => k_is)
    (case eg2 => k_is)
    (case eh2 => k_is)
    (case eD2 => k_is)
    (case ea2 => k_is)
    (case eM2 => k_is)
    (case en2_0 => k_is)
    (case eG3 => k_is)
    (case eL3 => k_is)
    (case eR3 => decide +kernel)
    (case eS3 => k_is)
    (case eB3 => k_is)
    (case eT3 => k_is)
    (case eK3 => k_is)
    (case eI3 => k_is)
    (case eF3 => k_is)
    (case el3 => k_is)
    (case ec3 => k_is)
    (case eo3 => k_is)
    (case ev3 => rfl)
    (case ef3 => first | rfl | decide +kernel)
    (case ee3 => k_is)
    (case ed3 => k_is)
    (case em3 => k_is)
    (case es3 => ks_is)
    (case eV3 => k_is)
    (case eg3 => k_is)
    (case eh3 => k_is)
    (case eD3 => k_is)
    (case ea3 => k_is)
    (case eM3 => k_is)
    (case en3_0 => k_is)
    (case eP => k_is)
    (case eQ => k_is)
    (case z0 => k_is)
    (case z1 => k_is)
    (case z2 => k_is)
    (case z3 => k_is)
    (case z4 => k_is)
    (case z5 => k_is)
    (case z6 => k_is)
    (case z7 => k_is)
    (case z8 => k_is)
    (case z9 => k_is)
    (case z10 => k_is)
#print axioms PySem.Challenge.cw_numbersenough_k89_windows_for_lifetimes_holds
