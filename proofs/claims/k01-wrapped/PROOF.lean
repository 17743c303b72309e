import PyProof.Rows.All
import Wide.All
import OpenK.AllK
import Wide.FinOn
import HandS.ForMost
import HandS.ForExc
import HandS.Wide
import HandS.IsInst
import HandS.HeadHook2
import HandS.Head2
import HandS.HeadEnd
import PyProof.Rows.SeqMore
import PySem.Challenge.RW_widelanes_k01_wrapped
set_option Elab.async false
set_option linter.all false
set_option maxRecDepth 100000
namespace Tl
open PySem PySem.Spec PyProof.Rows L2

/-! ### data as trees -/
inductive D where
  | non | bl (b : Bool) | int (i : Int) | str (s : Str) | tup (l : List D) | lst (l : List D) | tab (l : List D) | scr (l : List D) | ref (a : Addr) | ty (n : String)
/-- what may still change -/
inductive MO where
  | lst (l : List D) | dK (kvs : List (Key × D)) | dT (kvs : List (List Key × D)) | ins (C dx : Addr) (fs : List (Str × D))
abbrev MH := Addr → Option MO
def mup (M : MH) (a : Addr) (o : MO) : MH := fun b => if b = a then some o else M b
def mdel (M : MH) (a : Addr) : MH := fun b => if b = a then none else M b
theorem mup_same {M : MH} {a : Addr} {o : MO} : mup M a o a = some o := by unfold mup; rw [if_pos rfl]
theorem mup_ne {M : MH} {a b : Addr} {o : MO} (h : b ≠ a) : mup M a o b = M b := by unfold mup; rw [if_neg h]
theorem mup_mup {M : MH} {a : Addr} {o u : MO} : mup (mup M a o) a u = mup M a u := by
  funext b; unfold mup; split <;> rfl
theorem mdel_mup {M : MH} {a : Addr} {o : MO} (h : M a = none) : mdel (mup M a o) a = M := by
  funext b; unfold mdel mup
  by_cases e : b = a
  · rw [if_pos e, e, h]
  · rw [if_neg e, if_neg e]

section
variable (K : PySem.W.Frag)
mutual
inductive Rp (F : Hp) : V → D → Prop
  | non : Rp F .non .non
  | bl (b : Bool) : Rp F (.bl b) (.bl b)
  | int (i : Int) : Rp F (.int i) (.int i)
  | str (s : Str) : Rp F (.str s) (.str s)
  | ty (n : String) : Rp F (.ty n) (.ty n)
  | ref (a : Addr) : Rp F (.ref a) (.ref a)
  | tup {a : Addr} {vs : List V} {ds : List D} (h : F a = some (.tup vs)) (r : Rps F vs ds) : Rp F (.ref a) (.tup ds)
  | tab {a : Addr} {vs : List V} {ds : List D} (h : SqT K F a vs) (r : Rps F vs ds) : Rp F (.ref a) (.tab ds)
  | lst {a : Addr} {vs : List V} {ds : List D} (h : F a = some (.lst vs)) (r : Rps F vs ds) : Rp F (.ref a) (.lst ds)
  | scr {a : Addr} {vs : List V} {ds : List D} (h : SqL K F a vs) (r : Rps F vs ds) : Rp F (.ref a) (.scr ds)
inductive Rps (F : Hp) : List V → List D → Prop
  | nil : Rps F [] []
  | cons {v : V} {d : D} {vs : List V} {ds : List D} (h : Rp F v d) (t : Rps F vs ds) : Rps F (v :: vs) (d :: ds)
end
end
section
variable {K : PySem.W.Frag}
theorem SameT {H H' : Hp} {a : Addr} {xs : List V} (e : Same H H') (h : SqT K H a xs) : SqT K H' a xs := by
  rcases h with (h | ⟨o, h⟩) | h
  · exact .inl (.inl (e _ _ h))
  · exact .inl (.inr ⟨o, e _ _ h⟩)
  · exact .inr h
theorem SameR {H H' : Hp} {a : Addr} {u : HO} (e : Same H H') (h : Rd H a u) : Rd H' a u := by
  rcases h with h | ⟨o, h⟩
  · exact .inl (e _ _ h)
  · exact .inr ⟨o, e _ _ h⟩
mutual
theorem Rp.mono {F F' : Hp} (s : Same F F') : ∀ {v : V} {d : D}, Rp K F v d → Rp K F' v d
  | _, _, .non => .non
  | _, _, .bl b => .bl b
  | _, _, .int i => .int i
  | _, _, .str x => .str x
  | _, _, .ty n => .ty n
  | _, _, .ref a => .ref a
  | _, _, .tup h r => .tup (s _ _ h) (Rps.mono s r)
  | _, _, .tab h r => .tab (SameT s h) (Rps.mono s r)
  | _, _, .lst h r => .lst (s _ _ h) (Rps.mono s r)
  | _, _, .scr h r => .scr (s.seq h) (Rps.mono s r)
theorem Rps.mono {F F' : Hp} (s : Same F F') : ∀ {vs : List V} {ds : List D}, Rps K F vs ds → Rps K F' vs ds
  | _, _, .nil => .nil
  | _, _, .cons h t => .cons (Rp.mono s h) (Rps.mono s t)
end
theorem Rps.length {F : Hp} : ∀ {vs : List V} {ds : List D}, Rps K F vs ds → vs.length = ds.length
  | _, _, .nil => rfl
  | _, _, .cons _ t => by rw [List.length_cons, List.length_cons, Rps.length t]
theorem Rps.get {F : Hp} : ∀ {vs : List V} {ds : List D} {i : Nat} {v : V}, Rps K F vs ds → vs[i]? = some v → ∃ d, ds[i]? = some d ∧ Rp K F v d
  | _, _, _, _, .nil, e => by simp at e
  | _, _, 0, _, .cons h _, e => by simp at e; subst e; exact ⟨_, rfl, h⟩
  | _, _, i + 1, v, .cons _ t, e => by
    obtain ⟨d, h1, h2⟩ := Rps.get (i := i) (v := v) t (by simpa using e)
    exact ⟨d, by simpa using h1, h2⟩
theorem Rps.getD {F : Hp} : ∀ {vs : List V} {ds : List D} {i : Nat} {d : D}, Rps K F vs ds → ds[i]? = some d → ∃ v, vs[i]? = some v ∧ Rp K F v d
  | _, _, _, _, .nil, e => by simp at e
  | _, _, 0, _, .cons h _, e => by simp at e; subst e; exact ⟨_, rfl, h⟩
  | _, _, i + 1, v, .cons _ t, e => by
    obtain ⟨d, h1, h2⟩ := Rps.getD (i := i) (d := v) t (by simpa using e)
    exact ⟨d, by simpa using h1, h2⟩
theorem Rps.append {F : Hp} : ∀ {vs ws : List V} {ds es : List D}, Rps K F vs ds → Rps K F ws es → Rps K F (vs ++ ws) (ds ++ es)
  | _, _, _, _, .nil, s => s
  | _, _, _, _, .cons h t, s => .cons h (Rps.append t s)
theorem Rps.take {F : Hp} : ∀ {vs : List V} {ds : List D} (n : Nat), Rps K F vs ds → Rps K F (vs.take n) (ds.take n)
  | _, _, 0, _ => .nil
  | _, _, _ + 1, .nil => .nil
  | _, _, n + 1, .cons r t => .cons r (Rps.take n t)
theorem Rps.drop {F : Hp} : ∀ {vs : List V} {ds : List D} (n : Nat), Rps K F vs ds → Rps K F (vs.drop n) (ds.drop n)
  | _, _, 0, r => r
  | _, _, _ + 1, .nil => .nil
  | _, _, n + 1, .cons _ t => Rps.drop n t
theorem Rps.set {F : Hp} {v : V} {d : D} (r : Rp K F v d) : ∀ {vs : List V} {ds : List D} (n : Nat), Rps K F vs ds → Rps K F (vs.set n v) (ds.set n d)
  | _, _, _, .nil => .nil
  | _, _, 0, .cons _ t => .cons r t
  | _, _, n + 1, .cons q t => .cons q (Rps.set r n t)
theorem Rps.dropLast {F : Hp} {vs : List V} {ds : List D} (h : Rps K F vs ds) : Rps K F vs.dropLast ds.dropLast := by
  rw [List.dropLast_eq_take, List.dropLast_eq_take, h.length]
  exact h.take _
theorem Rps.reverse {F : Hp} : ∀ {vs : List V} {ds : List D}, Rps K F vs ds → Rps K F vs.reverse ds.reverse
  | _, _, .nil => .nil
  | _, _, .cons h t => by
    rw [List.reverse_cons, List.reverse_cons]
    exact (Rps.reverse t).append (.cons h .nil)

/-- what stands at a mutable place -/
def RpO (K : PySem.W.Frag) (F : Hp) : HO → MO → Prop
  | .lst vs, .lst ds => Rps K F vs ds
  | .dK ks, .dK ls => Paired (fun (p : Key × V) (q : Key × D) => p.1 = q.1 ∧ Rp K F p.2 q.2) ks ls
  | .dT ks, .dT ls => Paired (fun (p : List Key × V) (q : List Key × D) => p.1 = q.1 ∧ Rp K F p.2 q.2) ks ls
  | .ins C dx fs, .ins C' dx' gs => C = C' ∧ dx = dx' ∧ Paired (fun (p : Str × V) (q : Str × D) => p.1 = q.1 ∧ Rp K F p.2 q.2) fs gs
  | _, _ => False
theorem Paired.imp {α β : Type} {R S : α → β → Prop} (h : ∀ a b, R a b → S a b) : ∀ {xs : List α} {ys : List β}, Paired R xs ys → Paired S xs ys
  | _, _, .nil => .nil
  | _, _, .cons r t => .cons (h _ _ r) (Paired.imp h t)
theorem RpO.mono {F F' : Hp} (s : Same F F') : ∀ {u : HO} {o : MO}, RpO K F u o → RpO K F' u o
  | .lst _, .lst _, h => Rps.mono s h
  | .dK _, .dK _, h => Paired.imp (fun _ _ q => ⟨q.1, q.2.mono s⟩) h
  | .dT _, .dT _, h => Paired.imp (fun _ _ q => ⟨q.1, q.2.mono s⟩) h
  | .ins _ _ _, .ins _ _ _, h => ⟨h.1, h.2.1, Paired.imp (fun _ _ q => ⟨q.1, q.2.mono s⟩) h.2.2⟩
  | .lst _, .dK _, h => h.elim
  | .lst _, .dT _, h => h.elim
  | .lst _, .ins _ _ _, h => h.elim
  | .dK _, .lst _, h => h.elim
  | .dK _, .dT _, h => h.elim
  | .dK _, .ins _ _ _, h => h.elim
  | .dT _, .lst _, h => h.elim
  | .dT _, .dK _, h => h.elim
  | .dT _, .ins _ _ _, h => h.elim
  | .ins _ _ _, .lst _, h => h.elim
  | .ins _ _ _, .dK _, h => h.elim
  | .ins _ _ _, .dT _, h => h.elim
  | .tup _, _, h => (h : False).elim
  | .set _ _, _, h => (h : False).elim
  | .own _, _, h => (h : False).elim
  | .xd _, _, h => (h : False).elim
  | .met _ _, _, h => (h : False).elim
  | .rng _ _, _, h => (h : False).elim
  | .frz _ _, _, h => (h : False).elim
  | .tbl _, _, h => (h : False).elim
  | .ext _, _, h => (h : False).elim
/-- what a caller hides G, the frozen part F, the heap H, the changing part M -/
structure Rel (K : PySem.W.Frag) (G F H : Hp) (M : MH) : Prop where
  sub : Same F H
  chg : ∀ a o, M a = some o → F a = none ∧ ∃ u, H a = some u ∧ RpO K F u o
  hid : ∀ a o, G a = some o → H a = some o ∧ F a = none ∧ M a = none
theorem same_upd {H : Hp} {p : Addr} {o : HO} (h : H p = none) : Same H (upd H p o) := fun b x e => by
  rw [upd_ne (ne_of_none e h)]
  exact e
section
variable {G F H : Hp} {M : MH}
theorem Rel.free (R : Rel K G F H M) {p : Addr} (h : H p = none) : F p = none ∧ M p = none := by
  refine ⟨R.sub.free h, ?_⟩
  cases e : M p with
  | none => rfl
  | some o =>
    obtain ⟨_, u, hu, _⟩ := R.chg p o e
    rw [h] at hu
    cases hu
theorem Rel.freeG (R : Rel K G F H M) {p : Addr} (h : H p = none) : G p = none := by
  cases e : G p with
  | none => rfl
  | some o =>
    rw [(R.hid p o e).1] at h
    cases h
/-- a new frozen thing -/
theorem Rel.newF (R : Rel K G F H M) {p : Addr} {o : HO} (h : H p = none) : Same F (upd F p o) ∧ Rel K G (upd F p o) (upd H p o) M := by
  have s : Same F (upd F p o) := same_upd (R.free h).1
  refine ⟨s, ⟨fun b u e => ?_, fun a m e => ?_, fun a u e => ?_⟩⟩
  · by_cases q : b = p
    · subst q
      rw [upd_same] at e ⊢
      exact e
    · rw [upd_ne q] at e ⊢
      exact R.sub _ _ e
  · obtain ⟨f, u, hu, r⟩ := R.chg a m e
    have q : a ≠ p := ne_of_none hu h
    exact ⟨by rw [upd_ne q]; exact f, u, by rw [upd_ne q]; exact hu, r.mono s⟩
  · obtain ⟨h1, h2, h3⟩ := R.hid a u e
    have q : a ≠ p := ne_of_none h1 h
    exact ⟨by rw [upd_ne q]; exact h1, by rw [upd_ne q]; exact h2, h3⟩
/-- a new changing thing -/
theorem Rel.newM (R : Rel K G F H M) {p : Addr} {u : HO} {o : MO} (h : H p = none) (r : RpO K F u o) : Rel K G F (upd H p u) (mup M p o) := by
  refine ⟨fun b x e => same_upd h _ _ (R.sub _ _ e), fun a m e => ?_, fun a x e => ?_⟩
  · by_cases q : a = p
    · subst q
      rw [mup_same] at e
      cases e
      exact ⟨(R.free h).1, u, upd_same, r⟩
    · rw [mup_ne q] at e
      obtain ⟨f, x, hx, r⟩ := R.chg a m e
      exact ⟨f, x, by rw [upd_ne q]; exact hx, r⟩
  · obtain ⟨h1, h2, h3⟩ := R.hid a x e
    have q : a ≠ p := ne_of_none h1 h
    exact ⟨by rw [upd_ne q]; exact h1, h2, by rw [mup_ne q]; exact h3⟩
/-- a store -/
theorem Rel.put (R : Rel K G F H M) {p : Addr} {u : HO} {o o0 : MO} (h : M p = some o0) (r : RpO K F u o) : Rel K G F (upd H p u) (mup M p o) := by
  obtain ⟨f0, _, _, _⟩ := R.chg p o0 h
  refine ⟨fun b x e => ?_, fun a m e => ?_, fun a x e => ?_⟩
  · rw [upd_ne (ne_of_none e f0)]
    exact R.sub _ _ e
  · by_cases q : a = p
    · subst q
      rw [mup_same] at e
      cases e
      exact ⟨f0, u, upd_same, r⟩
    · rw [mup_ne q] at e
      obtain ⟨f, x, hx, r⟩ := R.chg a m e
      exact ⟨f, x, by rw [upd_ne q]; exact hx, r⟩
  · obtain ⟨h1, h2, h3⟩ := R.hid a x e
    have q : a ≠ p := fun q => by
      rw [q, h] at h3
      cases h3
    exact ⟨by rw [upd_ne q]; exact h1, h2, by rw [mup_ne q]; exact h3⟩
/-- less is known -/
theorem Rel.drop {M' : MH} (R : Rel K G F H M) (h : ∀ a o, M' a = some o → M a = some o) : Rel K G F H M' := ⟨R.sub, fun a o e => R.chg a o (h a o e), fun a o e => by
  obtain ⟨h1, h2, h3⟩ := R.hid a o e
  refine ⟨h1, h2, ?_⟩
  cases q : M' a with
  | none => rfl
  | some x =>
    rw [h a x q] at h3
    cases h3⟩
/-- a changing list will change no more -/
theorem Rel.freeze (R : Rel K G F H M) {p : Addr} {ds : List D} (h : M p = some (.lst ds)) : ∃ F', Same F F' ∧ Rel K G F' H (mdel M p) ∧ Rp K F' (.ref p) (.lst ds) := by
  obtain ⟨f, u, hu, r⟩ := R.chg p _ h
  cases u with
  | lst vs =>
    have r' : Rps K F vs ds := r
    have s : Same F (upd F p (.lst vs)) := same_upd f
    refine ⟨upd F p (.lst vs), s, ⟨fun b x e => ?_, fun a m e => ?_, fun a x e => ?_⟩, .lst upd_same (r'.mono s)⟩
    · by_cases q : b = p
      · subst q
        rw [upd_same] at e
        rw [hu]
        exact e
      · rw [upd_ne q] at e
        exact R.sub _ _ e
    · unfold mdel at e
      by_cases q : a = p
      · rw [if_pos q] at e
        cases e
      · rw [if_neg q] at e
        obtain ⟨f2, x, hx, r2⟩ := R.chg a m e
        exact ⟨by rw [upd_ne q]; exact f2, x, hx, r2.mono s⟩
    · obtain ⟨h1, h2, h3⟩ := R.hid a x e
      have q : a ≠ p := fun q => by
        rw [q, h] at h3
        cases h3
      refine ⟨h1, by rw [upd_ne q]; exact h2, ?_⟩
      unfold mdel
      rw [if_neg q]
      exact h3
  | _ => exact (r : False).elim
/-- a changing thing is hidden -/
theorem Rel.hide (R : Rel K G F H M) {p : Addr} {o : MO} (h : M p = some o) : ∃ u, H p = some u ∧ RpO K F u o ∧ Rel K (upd G p u) F H (mdel M p) := by
  obtain ⟨f, u, hu, r⟩ := R.chg p _ h
  refine ⟨u, hu, r, R.sub, fun a m e => ?_, fun a x e => ?_⟩
  · unfold mdel at e
    by_cases q : a = p
    · rw [if_pos q] at e
      cases e
    · rw [if_neg q] at e
      exact R.chg a m e
  · unfold mdel
    by_cases q : a = p
    · subst q
      rw [upd_same] at e
      cases e
      exact ⟨hu, f, if_pos rfl⟩
    · rw [upd_ne q] at e
      obtain ⟨h1, h2, h3⟩ := R.hid a x e
      exact ⟨h1, h2, by rw [if_neg q]; exact h3⟩
/-- a new thing, hidden -/
theorem Rel.newG (R : Rel K G F H M) {p : Addr} {u : HO} (h : H p = none) : Rel K (upd G p u) F (upd H p u) M := by
  have q0 : ∀ a x, H a = some x → a ≠ p := fun a x e => ne_of_none e h
  refine ⟨fun b x e => same_upd h _ _ (R.sub _ _ e), fun a m e => ?_, fun a x e => ?_⟩
  · obtain ⟨f, x, hx, r⟩ := R.chg a m e
    exact ⟨f, x, by rw [upd_ne (q0 _ _ hx)]; exact hx, r⟩
  · by_cases q : a = p
    · subst q
      rw [upd_same] at e
      cases e
      exact ⟨upd_same, (R.free h).1, (R.free h).2⟩
    · rw [upd_ne q] at e
      obtain ⟨h1, h2, h3⟩ := R.hid a x e
      exact ⟨by rw [upd_ne q]; exact h1, h2, h3⟩
/-- the hidden thing is changed -/
theorem Rel.putG {u u' : HO} {p : Addr} (R : Rel K (upd G p u) F H M) : Rel K (upd G p u') F (upd H p u') M := by
  obtain ⟨h1, h2, h3⟩ := R.hid p u upd_same
  refine ⟨fun b x e => ?_, fun a m e => ?_, fun a x e => ?_⟩
  · rw [upd_ne (ne_of_none e h2)]
    exact R.sub _ _ e
  · obtain ⟨f, x, hx, r⟩ := R.chg a m e
    have q : a ≠ p := fun q => by
      rw [q, h3] at e
      cases e
    exact ⟨f, x, by rw [upd_ne q]; exact hx, r⟩
  · by_cases q : a = p
    · subst q
      rw [upd_same] at e
      cases e
      exact ⟨upd_same, h2, h3⟩
    · rw [upd_ne q] at e
      obtain ⟨g1, g2, g3⟩ := R.hid a x (by rw [upd_ne q]; exact e)
      exact ⟨by rw [upd_ne q]; exact g1, g2, g3⟩
/-- the hidden thing is shown, frozen | changing -/
theorem Rel.showF {u : HO} {p : Addr} (hg : G p = none) (R : Rel K (upd G p u) F H M) : Same F (upd F p u) ∧ Rel K G (upd F p u) H M := by
  obtain ⟨h1, h2, h3⟩ := R.hid p u upd_same
  have s : Same F (upd F p u) := same_upd h2
  refine ⟨s, fun b x e => ?_, fun a m e => ?_, fun a x e => ?_⟩
  · by_cases q : b = p
    · subst q
      rw [upd_same] at e
      rw [h1]
      exact e
    · rw [upd_ne q] at e
      exact R.sub _ _ e
  · obtain ⟨f, x, hx, r⟩ := R.chg a m e
    have q : a ≠ p := fun q => by
      rw [q, h3] at e
      cases e
    exact ⟨by rw [upd_ne q]; exact f, x, hx, r.mono s⟩
  · have q : a ≠ p := ne_of_none e hg
    obtain ⟨g1, g2, g3⟩ := R.hid a x (by rw [upd_ne q]; exact e)
    exact ⟨g1, by rw [upd_ne q]; exact g2, g3⟩
theorem Rel.showM {u : HO} {o : MO} {p : Addr} (hg : G p = none) (r : RpO K F u o) (R : Rel K (upd G p u) F H M) : Rel K G F H (mup M p o) := by
  obtain ⟨h1, h2, h3⟩ := R.hid p u upd_same
  refine ⟨R.sub, fun a m e => ?_, fun a x e => ?_⟩
  · by_cases q : a = p
    · subst q
      rw [mup_same] at e
      cases e
      exact ⟨h2, u, h1, r⟩
    · rw [mup_ne q] at e
      exact R.chg a m e
  · have q : a ≠ p := ne_of_none e hg
    obtain ⟨g1, g2, g3⟩ := R.hid a x (by rw [upd_ne q]; exact e)
    exact ⟨g1, g2, by rw [mup_ne q]; exact g3⟩
end
end
end Tl

namespace Tl
open PySem PySem.Spec PyProof.Rows L2

/-! ### judgements over trees -/
abbrev Sg := List (Option D)
abbrev VD := D → MH → Prop
abbrev XT := Value → MH → Prop
abbrev TEt := Sg → MH → VD → Prop
abbrev TTt := Sg → MH → (Bool → MH → Prop) → Prop
abbrev TAt := Sg → MH → (List D → MH → Prop) → Prop
structure En where
  nx : Sg → MH → Prop
  rt : VD
  bk : Sg → MH → Prop := fun _ _ => False
  ct : Sg → MH → Prop := fun _ _ => False
abbrev TSt := En → Sg → MH → Prop
def nth : Sg → Nat → Option D
  | [], _ => none
  | x :: _, 0 => x
  | _ :: t, n + 1 => nth t n
theorem nth_get : ∀ {t : Sg} {i : Nat} {d : D}, nth t i = some d → t[i]? = some (some d)
  | [], _, _, h => by cases h
  | x :: _, 0, d, h => by
    show some x = some (some d)
    exact congrArg some h
  | _ :: t, n + 1, d, h => by
    rw [List.getElem?_cons_succ]
    exact nth_get (t := t) h
abbrev Et0 : XT := fun _ _ => False
def Sgr (K : PySem.W.Frag) (F : Hp) (σ : L2.St) (τ : Sg) : Prop := σ.length = τ.length ∧ ∀ (i : Nat) (d : D), τ[i]? = some (some d) → ∃ v, σ[i]? = some (some v) ∧ Rp K F v d
/-- what is wished of exceptions -/
def EL (K : PySem.W.Frag) (G F : Hp) (E : XK) (Et : XT) : Prop := ∀ cls F' H' M', Same F F' → Rel K G F' H' M' → Et cls M' → E cls none H'
structure At (K : PySem.W.Frag) (E : XK) (Et : XT) (G F H : Hp) (M : MH) (σ : L2.St) (τ : Sg) : Prop where
  rel : Rel K G F H M
  sg : Sgr K F σ τ
  el : EL K G F E Et
section
variable {K : PySem.W.Frag} {E : XK} {Et : XT} {G F F' H H' : Hp} {M M' : MH} {σ : L2.St} {τ : Sg}
theorem Sgr.mono (h : Sgr K F σ τ) (s : Same F F') : Sgr K F' σ τ := ⟨h.1, fun i d e => by
  obtain ⟨v, a, b⟩ := h.2 i d e
  exact ⟨v, a, b.mono s⟩⟩
theorem Sgr.set (h : Sgr K F σ τ) {i : Nat} {v : V} {d : D} (r : Rp K F v d) : Sgr K F (σ.set i (some v)) (τ.set i (some d)) := by
  refine ⟨by rw [List.length_set, List.length_set]; exact h.1, fun j e q => ?_⟩
  by_cases hij : i = j
  · subst hij
    by_cases hl : i < τ.length
    · rw [List.getElem?_set_self hl] at q
      rw [List.getElem?_set_self (by rw [h.1]; exact hl)]
      cases q
      exact ⟨v, rfl, r⟩
    · rw [List.getElem?_eq_none (by rw [List.length_set]; omega)] at q
      cases q
  · rw [List.getElem?_set_ne hij] at q ⊢
    exact h.2 j e q
theorem Sgr.unset (h : Sgr K F σ τ) {i : Nat} : Sgr K F (σ.set i none) (τ.set i none) := by
  refine ⟨by rw [List.length_set, List.length_set]; exact h.1, fun j e q => ?_⟩
  by_cases hij : i = j
  · subst hij
    by_cases hl : i < τ.length
    · rw [List.getElem?_set_self hl] at q
      cases q
    · rw [List.getElem?_eq_none (by rw [List.length_set]; omega)] at q
      cases q
  · rw [List.getElem?_set_ne hij] at q ⊢
    exact h.2 j e q
theorem EL.mono (h : EL K G F E Et) (s : Same F F') : EL K G F' E Et := fun cls F2 H2 M2 s2 => h cls F2 H2 M2 (s.trans s2)
theorem EL.never {E : XK} : EL K G F E Et0 := fun _ _ _ _ _ _ h => h.elim
theorem At.step (a : At K E Et G F H M σ τ) (s : Same F F') (r : Rel K G F' H' M') : At K E Et G F' H' M' σ τ := ⟨r, a.sg.mono s, a.el.mono s⟩
theorem At.store (a : At K E Et G F H M σ τ) {i : Nat} {v : V} {d : D} (r : Rp K F v d) : At K E Et G F H M (σ.set i (some v)) (τ.set i (some d)) := ⟨a.rel, a.sg.set r, a.el⟩
end
section
variable (K : PySem.W.Frag) (E : XK) (Et : XT)
def liftE (t : TEt) : TE := fun σ H Q => ∃ G F M τ Qt, At K E Et G F H M σ τ ∧ t τ M Qt ∧ ∀ v F' H' M' d, Same F F' → Rel K G F' H' M' → Rp K F' v d → Qt d M' → Q v H'
def liftT (t : TTt) : TT := fun σ H Q => ∃ G F M τ Qt, At K E Et G F H M σ τ ∧ t τ M Qt ∧ ∀ b F' H' M', Same F F' → Rel K G F' H' M' → Qt b M' → Q b H'
def liftA (t : TAt) : TA := fun σ H Q => ∃ G F M τ Qt, At K E Et G F H M σ τ ∧ t τ M Qt ∧ ∀ vs F' H' M' ds, Same F F' → Rel K G F' H' M' → Rps K F' vs ds → Qt ds M' → Q vs H'
structure EnL (G F : Hp) (D : Ends) (Dt : En) : Prop where
  nx : ∀ F' H' M' σ τ, Same F F' → At K E Et G F' H' M' σ τ → Dt.nx τ M' → D.nx σ H'
  rt : ∀ F' H' M' v d, Same F F' → Rel K G F' H' M' → Rp K F' v d → Dt.rt d M' → D.rt v H'
  bk : ∀ F' H' M' σ τ, Same F F' → At K E Et G F' H' M' σ τ → Dt.bk τ M' → D.bk σ H'
  ct : ∀ F' H' M' σ τ, Same F F' → At K E Et G F' H' M' σ τ → Dt.ct τ M' → D.ct σ H'
def liftS (t : TSt) : TS := fun D σ H => ∃ G F M τ Dt, At K E Et G F H M σ τ ∧ EnL K E Et G F D Dt ∧ t Dt τ M
end
theorem EnL.mono {K : PySem.W.Frag} {E : XK} {Et : XT} {G F F' : Hp} {D : Ends} {Dt : En} (h : EnL K E Et G F D Dt) (s : Same F F') : EnL K E Et G F' D Dt :=
  ⟨fun F2 H2 M2 σ τ s2 => h.nx F2 H2 M2 σ τ (s.trans s2), fun F2 H2 M2 v d s2 => h.rt F2 H2 M2 v d (s.trans s2), fun F2 H2 M2 σ τ s2 => h.bk F2 H2 M2 σ τ (s.trans s2), fun F2 H2 M2 σ τ s2 => h.ct F2 H2 M2 σ τ (s.trans s2)⟩
abbrev QE (X : Cx) (E : XK) (Et : XT) (e : Expr) (t : TEt) : Prop := PE X e (liftE X.K E Et t)
abbrev QT (X : Cx) (E : XK) (Et : XT) (e : Expr) (t : TTt) : Prop := PT X e (liftT X.K E Et t)
abbrev QW (X : Cx) (E : XK) (Et : XT) (e : Expr) (t : TTt) : Prop := PW X e (liftT X.K E Et t)
abbrev QA (X : Cx) (E : XK) (Et : XT) (es : List Expr) (t : TAt) : Prop := PA X es (liftA X.K E Et t)
abbrev QS (X : Cx) (E : XK) (Et : XT) (st : Stmt) (t : TSt) : Prop := PS X st (liftS X.K E Et t)
abbrev QSs (X : Cx) (E : XK) (Et : XT) (st : List Stmt) (t : TSt) : Prop := PSs X st (liftS X.K E Et t)
section
variable {X : Cx}
theorem PEimp {e : Expr} {t t' : TE} (h : PE X e t) (i : ∀ σ H Q, t' σ H Q → t σ H Q) : PE X e t' := ⟨fun pins s σ H Q I w => h.run pins s σ H Q I (i _ _ _ w)⟩
theorem PTimp {e : Expr} {t t' : TT} (h : PT X e t) (i : ∀ σ H Q, t' σ H Q → t σ H Q) : PT X e t' := ⟨fun pins s σ H Q I w => h.run pins s σ H Q I (i _ _ _ w)⟩
theorem PWimp {e : Expr} {t t' : TT} (h : PW X e t) (i : ∀ σ H Q, t' σ H Q → t σ H Q) : PW X e t' := ⟨fun wh pins s σ H Q I w => h.run wh pins s σ H Q I (i _ _ _ w)⟩
theorem PAimp {e : List Expr} {t t' : TA} (h : PA X e t) (i : ∀ σ H Q, t' σ H Q → t σ H Q) : PA X e t' := ⟨fun pos pins s σ H Q I w => h.run pos pins s σ H Q I (i _ _ _ w)⟩
theorem PSimp {e : Stmt} {t t' : TS} (h : PS X e t) (i : ∀ D σ H, t' D σ H → t D σ H) : PS X e t' := ⟨fun pins s σ H D I w => h.run pins s σ H D I (i _ _ _ w)⟩
theorem PSsimp {e : List Stmt} {t t' : TS} (h : PSs X e t) (i : ∀ D σ H, t' D σ H → t D σ H) : PSs X e t' := ⟨fun pins s σ H D I w => h.run pins s σ H D I (i _ _ _ w)⟩
theorem OpRimp {f : Value → Value → Sem Value} {r r' : R2} (h : OpR X f r) (i : ∀ x y H Q, r' x y H Q → r x y H Q) : OpR X f r' := fun pins s σ H x y u v Q I rx ry w => h pins s σ H x y u v Q I rx ry (i _ _ _ _ w)
theorem UnRimp {f : Value → Sem Value} {r r' : V → Hp → VK → Prop} (h : UnR X f r) (i : ∀ x H Q, r' x H Q → r x H Q) : UnR X f r' := fun pins s σ H x u Q I rx w => h pins s σ H x u Q I rx (i _ _ _ w)
theorem CallRimp {f : Value} {r r' : List V → Hp → VK → Prop} (h : CallR X f r) (i : ∀ x H Q, r' x H Q → r x H Q) : CallR X f r' := fun pins s σ H x u Q I rx w => h pins s σ H x u Q I rx (i _ _ _ w)
end
/-! ### names, constants -/
def tV (i : Nat) : TEt := fun τ M Q => match nth τ i with
  | some d => Q d M
  | none => False
def tK (d : D) : TEt := fun _ M Q => Q d M
section
variable {X : Cx} {E : XK} {Et : XT}
theorem lv_var {i : Nat} : ∀ σ H Q, liftE X.K E Et (tV i) σ H Q → tVar i σ H Q := by
  rintro σ H Q ⟨G, F, M, τ, Qt, a, h, k⟩
  unfold tV at h
  cases e : nth τ i with
  | none => rw [e] at h; exact h.elim
  | some d =>
    rw [e] at h
    obtain ⟨v, h1, h2⟩ := a.sg.2 i d (nth_get e)
    exact ⟨v, h1, k v F H M d (Same.refl _) a.rel h2 h⟩
theorem qv (i : Nat) {x : Str} {pos : Pos} (hN : X.N[i]? = some x := by rfl) (hv : Vis X.env.scope x := by first | exact Or.inl rfl | exact Or.inr (Or.inl rfl) | exact Or.inr (Or.inr rfl)) (hd : (x == ("__debug__" : Str)) = false := by decide)
    (hcd : (x == ("__classdict__" : Str)) = false := by decide) : QE X E Et (.Name x pos) (tV i) := PEimp (pe_var hN hv hd hcd) lv_var
theorem lv_c {v : V} {d : D} (r : ∀ F, Rp X.K F v d) : ∀ σ H Q, liftE X.K E Et (tK d) σ H Q → tC v σ H Q := by
  rintro σ H Q ⟨G, F, M, τ, Qt, a, h, k⟩
  exact k v F H M d (Same.refl _) a.rel (r F) h
theorem q_int {i j pos} : QE X E Et (.Constant (.int i) j pos) (tK (.int i)) := PEimp pe_int (lv_c fun _ => .int i)
theorem q_bl {b j pos} : QE X E Et (.Constant (.bool b) j pos) (tK (.bl b)) := PEimp pe_bl (lv_c fun _ => .bl b)
theorem q_non {j pos} : QE X E Et (.Constant .none j pos) (tK .non) := PEimp pe_non (lv_c fun _ => .non)
theorem q_str {x j pos} : QE X E Et (.Constant (.str x) j pos) (tK (.str x)) := PEimp pe_str (lv_c fun _ => .str x)
theorem q_gint {x : Str} {i : Int} {pos : Pos} (hm : ∃ t, X.mg x = some (.int i t)) (hg : Gl X x := by rfl) (hd : (x == ("__debug__" : Str)) = false := by decide) : QE X E Et (.Name x pos) (tK (.int i)) := by
  obtain ⟨t, hm⟩ := hm
  exact PEimp (pe_glob (v := .int i) hg hm ⟨t, rfl⟩ hd) (lv_c fun _ => .int i)
theorem q_gstr {x : Str} {i : Str} {pos : Pos} (hm : ∃ t, X.mg x = some (.str i t)) (hg : Gl X x := by rfl) (hd : (x == ("__debug__" : Str)) = false := by decide) : QE X E Et (.Name x pos) (tK (.str i)) := by
  obtain ⟨t, hm⟩ := hm
  exact PEimp (pe_glob (v := .str i) hg hm ⟨t, rfl⟩ hd) (lv_c fun _ => .str i)
/-- a table of the top: a tuple | a list -/
theorem q_gref {x : Str} {u : Addr} {d : D} {pos : Pos} (hm : X.mg x = some (.ref u)) (r : ∀ F, Rp X.K F (.ref u) d) (hg : Gl X x := by rfl) (hd : (x == ("__debug__" : Str)) = false := by decide) : QE X E Et (.Name x pos) (tK d) :=
  PEimp (pe_glob (v := .ref u) hg hm rfl hd) (lv_c r)
theorem q_ty {x : Str} (T : String) {pos : Pos} (hm : X.mg x = none) (hv : bootBuiltins x = some (.type T)) (hg : Gl X x := by rfl) (hn : x ≠ "__name__" := by decide) (hd : (x == ("__debug__" : Str)) = false := by decide) : QE X E Et (.Name x pos) (tK (.ty T)) :=
  PEimp (pe_bltn (v := .ty T) hg hm hv rfl hn hd) (lv_c fun _ => .ty T)
end
/-! ### operators by values -/
abbrev R2t := D → D → MH → VD → Prop
abbrev R1t := D → MH → VD → Prop
abbrev RLt := List D → MH → VD → Prop
def lr2 (K : PySem.W.Frag) (r : R2t) : R2 := fun x y H Q => ∃ G F M dx dy Qt, Rel K G F H M ∧ Rp K F x dx ∧ Rp K F y dy ∧ r dx dy M Qt ∧ ∀ v F' H' M' d, Same F F' → Rel K G F' H' M' → Rp K F' v d → Qt d M' → Q v H'
def lr1 (K : PySem.W.Frag) (r : R1t) : V → Hp → VK → Prop := fun x H Q => ∃ G F M dx Qt, Rel K G F H M ∧ Rp K F x dx ∧ r dx M Qt ∧ ∀ v F' H' M' d, Same F F' → Rel K G F' H' M' → Rp K F' v d → Qt d M' → Q v H'
def lrL (K : PySem.W.Frag) (r : RLt) : List V → Hp → VK → Prop := fun xs H Q => ∃ G F M ds Qt, Rel K G F H M ∧ Rps K F xs ds ∧ r ds M Qt ∧ ∀ v F' H' M' d, Same F F' → Rel K G F' H' M' → Rp K F' v d → Qt d M' → Q v H'
abbrev OpQ (X : Cx) (f : Value → Value → Sem Value) (r : R2t) : Prop := OpR X f (lr2 X.K r)
abbrev UnQ (X : Cx) (f : Value → Sem Value) (r : R1t) : Prop := UnR X f (lr1 X.K r)
abbrev CallQ (X : Cx) (f : Value) (r : RLt) : Prop := CallR X f (lrL X.K r)
def tO (r : R2t) (ta tb : TEt) : TEt := fun τ M Q => ta τ M fun x M1 => tb τ M1 fun y M2 => r x y M2 Q
def tU (r : R1t) (ta : TEt) : TEt := fun τ M Q => ta τ M fun x M1 => r x M1 Q
def tCa (r : RLt) (ta : TAt) : TEt := fun τ M Q => ta τ M fun xs M1 => r xs M1 Q
section
variable {X : Cx} {E : XK} {Et : XT} {e a b : Expr} {es : List Expr} {ta tb : TEt} {t : TAt} {pos : Pos}
theorem lv_op {r : R2t} : ∀ σ H Q, liftE X.K E Et (tO r ta tb) σ H Q → tOp (lr2 X.K r) (liftE X.K E Et ta) (liftE X.K E Et tb) σ H Q := by
  rintro σ H Q ⟨G, F, M, τ, Qt, a, h, k⟩
  refine ⟨G, F, M, τ, _, a, h, fun v F1 H1 M1 d s1 r1 p1 q1 => ?_⟩
  refine ⟨G, F1, M1, τ, _, a.step s1 r1, q1, fun v2 F2 H2 M2 d2 s2 r2 p2 q2 => ?_⟩
  exact ⟨G, F2, M2, d, d2, Qt, r2, p1.mono s2, p2, q2, fun v F' H' M' d s => k v F' H' M' d ((s1.trans s2).trans s)⟩
theorem q_op {op : Operator} {r : R2t} (ho : OpQ X (binaryOp op) r) (ha : QE X E Et a ta) (hb : QE X E Et b tb) : QE X E Et (.BinOp a op b pos) (tO r ta tb) := PEimp (pe_op ho ha hb) lv_op
theorem q_cmp {op : CmpOp} {r : R2t} (ho : OpQ X (compareOp op) r) (ha : QE X E Et a ta) (hb : QE X E Et b tb) (hm : behindInMarks op b = false := by first | exact nomark _ | rfl) : QE X E Et (.Compare a [op] [b] pos) (tO r ta tb) := PEimp (pe_cmpR ho ha hb hm) lv_op
theorem q_un {op : UnaryOp} {r : R1t} (ho : UnQ X (unaryOp op) r) (ha : QE X E Et a ta) : QE X E Et (.UnaryOp op a pos) (tU r ta) := PEimp (pe_un ho ha) (by
  rintro σ H Q ⟨G, F, M, τ, Qt, a, h, k⟩
  refine ⟨G, F, M, τ, _, a, h, fun v F1 H1 M1 d s1 r1 p1 q1 => ?_⟩
  exact ⟨G, F1, M1, d, Qt, r1, p1, q1, fun v F' H' M' d s => k v F' H' M' d (s1.trans s)⟩)
/-! ### arguments -/
def tN : TAt := fun _ M Q => Q [] M
def tCs (ta : TEt) (tr : TAt) : TAt := fun τ M Q => ta τ M fun x M1 => tr τ M1 fun xs M2 => Q (x :: xs) M2
theorem qa_nil : QA X E Et [] tN := PAimp pa_nil (by
  rintro σ H Q ⟨G, F, M, τ, Qt, a, h, k⟩
  exact k [] F H M [] (Same.refl _) a.rel .nil h)
theorem qa_cons (ha : QE X E Et e ta) (hr : QA X E Et es t) (hs : starEach (e :: es) X.env = (false, eval e X.env) :: starEach es X.env := by rfl) : QA X E Et (e :: es) (tCs ta t) := PAimp (pa_cons ha hr hs) (by
  rintro σ H Q ⟨G, F, M, τ, Qt, a, h, k⟩
  refine ⟨G, F, M, τ, _, a, h, fun v F1 H1 M1 d s1 r1 p1 q1 => ?_⟩
  refine ⟨G, F1, M1, τ, _, a.step s1 r1, q1, fun vs F2 H2 M2 ds s2 r2 p2 q2 => ?_⟩
  exact k (v :: vs) F2 H2 M2 (d :: ds) (s1.trans s2) r2 (.cons (p1.mono s2) p2) q2)
theorem lv_cb {r : RLt} : ∀ σ H Q, liftE X.K E Et (tCa r t) σ H Q → tCB (lrL X.K r) (liftA X.K E Et t) σ H Q := by
  rintro σ H Q ⟨G, F, M, τ, Qt, a, h, k⟩
  refine ⟨G, F, M, τ, _, a, h, fun vs F1 H1 M1 ds s1 r1 p1 q1 => ?_⟩
  exact ⟨G, F1, M1, ds, Qt, r1, p1, q1, fun v F' H' M' d s => k v F' H' M' d (s1.trans s)⟩
theorem q_callB {id : String} {x : Str} {p : Pos} {r : RLt} (hc : CallQ X (.builtin id) r) (hm : X.mg x = none) (hv : bootBuiltins x = some (.builtin id)) (ha : QA X E Et (e :: es) t) (hg : Gl X x := by rfl) (hn : x ≠ "__name__" := by decide) (hdb : (x == ("__debug__" : Str)) = false := by decide)
    (he : starEach (e :: es) X.env = (false, eval e X.env) :: starEach es X.env := by rfl) (hpl : (backTo pos (starEach es X.env)).any (·.1) = false := by rfl) : QE X E Et (.Call (.Name x p) (e :: es) [] pos) (tCa r t) :=
  PEimp (pe_callB hc hg hm hv ha hn hdb he hpl) lv_cb
theorem q_callTy {T : String} {x : Str} {p : Pos} {r : RLt} (hc : CallQ X (.type T) r) (hm : X.mg x = none) (hv : bootBuiltins x = some (.type T)) (ha : QA X E Et (e :: es) t) (hg : Gl X x := by rfl) (hn : x ≠ "__name__" := by decide) (hdb : (x == ("__debug__" : Str)) = false := by decide)
    (he : starEach (e :: es) X.env = (false, eval e X.env) :: starEach es X.env := by rfl) (hpl : (backTo pos (starEach es X.env)).any (·.1) = false := by rfl) : QE X E Et (.Call (.Name x p) (e :: es) [] pos) (tCa r t) :=
  PEimp (pe_callTy hc hg hm hv ha hn hdb he hpl) lv_cb
end
/-! ### tests -/
def tBo (t : TEt) : TTt := fun τ M Q => t τ M fun x M1 => match x with
  | .bl c => Q c M1
  | _ => False
def tAn (t u : TTt) : TTt := fun τ M Q => t τ M fun c M1 => if c = true then u τ M1 Q else Q false M1
def tOr' (t u : TTt) : TTt := fun τ M Q => t τ M fun c M1 => if c = true then Q true M1 else u τ M1 Q
def tNo (t : TTt) : TTt := fun τ M Q => t τ M fun c M1 => Q (!c) M1
def tAnV (ta tb : TEt) : TEt := fun τ M Q => ta τ M fun x M1 => match x with
  | .bl c => if c = true then tb τ M1 Q else Q (.bl false) M1
  | _ => False
def tOrV' (ta tb : TEt) : TEt := fun τ M Q => ta τ M fun x M1 => match x with
  | .bl c => if c = true then Q (.bl true) M1 else tb τ M1 Q
  | _ => False
def tNoV (ta : TEt) : TEt := fun τ M Q => ta τ M fun x M1 => match x with
  | .bl c => Q (.bl (!c)) M1
  | _ => False
def tIfE (t : TTt) (ta tb : TEt) : TEt := fun τ M Q => t τ M fun c M1 => if c = true then ta τ M1 Q else tb τ M1 Q
section
variable {X : Cx} {E : XK} {Et : XT} {e a b c : Expr} {rest : List Expr} {ta tb : TEt} {t u : TTt} {pos : Pos}
theorem Rp.bl_inv {K : PySem.W.Frag} {F : Hp} {v : V} {c : Bool} (h : Rp K F v (.bl c)) : v = .bl c := by cases h; rfl
theorem lv_bo : ∀ σ H Q, liftT X.K E Et (tBo ta) σ H Q → tB (liftE X.K E Et ta) σ H Q := by
  rintro σ H Q ⟨G, F, M, τ, Qt, a, h, k⟩
  refine ⟨G, F, M, τ, _, a, h, fun v F1 H1 M1 d s1 r1 p1 q1 => ?_⟩
  cases d with
  | bl c => exact ⟨c, p1.bl_inv, k c F1 H1 M1 s1 r1 q1⟩
  | _ => exact q1.elim
theorem qt_val (h : QE X E Et e ta) (he : ∀ whole, isTrue e X.env whole = (do let v ← whole; standAt e.pos; holding [v] (truthy v)) := by intro _; rfl) : QT X E Et e (tBo ta) := PTimp (pt_val h he) lv_bo
theorem qt_cmp {op : CmpOp} {r : R2t} (ho : OpQ X (compareOp op) r) (ha : QE X E Et a ta) (hb : QE X E Et b tb) (hm : behindInMarks op b = false := by first | exact nomark _ | rfl) : QT X E Et (.Compare a [op] [b] pos) (tBo (tO r ta tb)) := PTimp (pt_cmpR ho ha hb hm) (by
  rintro σ H Q ⟨G, F, M, τ, Qt, a, h, k⟩
  refine lv_op _ _ _ ⟨G, F, M, τ, _, a, h, fun v F1 H1 M1 d s1 r1 p1 q1 => ?_⟩
  cases d with
  | bl c => exact ⟨c, p1.bl_inv, k c F1 H1 M1 s1 r1 q1⟩
  | _ => exact q1.elim)
theorem qw_and1 (ha : QT X E Et a t) : QW X E Et (.BoolOp .And [a] pos) t := pw_and1 ha
theorem qw_or1 (ha : QT X E Et a t) : QW X E Et (.BoolOp .Or [a] pos) t := pw_or1 ha
theorem qw_and (ha : QT X E Et a t) (hb : QW X E Et (.BoolOp .And (b :: rest) pos) u) : QW X E Et (.BoolOp .And (a :: b :: rest) pos) (tAn t u) := PWimp (pw_and ha hb) (by
  rintro σ H Q ⟨G, F, M, τ, Qt, a, h, k⟩
  refine ⟨G, F, M, τ, _, a, h, fun b F1 H1 M1 s1 r1 q1 => ?_⟩
  cases b with
  | true =>
    rw [if_pos rfl] at q1 ⊢
    exact ⟨G, F1, M1, τ, Qt, a.step s1 r1, q1, fun b F2 H2 M2 s2 => k b F2 H2 M2 (s1.trans s2)⟩
  | false =>
    rw [if_neg Bool.false_ne_true] at q1 ⊢
    exact k false F1 H1 M1 s1 r1 q1)
theorem qw_or (ha : QT X E Et a t) (hb : QW X E Et (.BoolOp .Or (b :: rest) pos) u) : QW X E Et (.BoolOp .Or (a :: b :: rest) pos) (tOr' t u) := PWimp (pw_or ha hb) (by
  rintro σ H Q ⟨G, F, M, τ, Qt, a, h, k⟩
  refine ⟨G, F, M, τ, _, a, h, fun b F1 H1 M1 s1 r1 q1 => ?_⟩
  cases b with
  | true =>
    rw [if_pos rfl] at q1 ⊢
    exact k true F1 H1 M1 s1 r1 q1
  | false =>
    rw [if_neg Bool.false_ne_true] at q1 ⊢
    exact ⟨G, F1, M1, τ, Qt, a.step s1 r1, q1, fun b F2 H2 M2 s2 => k b F2 H2 M2 (s1.trans s2)⟩)
theorem qt_w (h : QW X E Et e t) : QT X E Et e t := h.pt
theorem qt_not (ha : QT X E Et a t) : QT X E Et (.UnaryOp .Not a pos) (tNo t) := PTimp (pt_not ha) (by
  rintro σ H Q ⟨G, F, M, τ, Qt, a, h, k⟩
  exact ⟨G, F, M, τ, _, a, h, fun b F1 H1 M1 s1 r1 q1 => k _ F1 H1 M1 s1 r1 q1⟩)
theorem q_one {op} (h : QE X E Et a ta) : QE X E Et (.BoolOp op [a] pos) ta := pe_one h
theorem q_and (ha : QE X E Et a ta) (hb : QE X E Et (.BoolOp .And (b :: rest) pos) tb) : QE X E Et (.BoolOp .And (a :: b :: rest) pos) (tAnV ta tb) := PEimp (pe_and ha hb) (by
  rintro σ H Q ⟨G, F, M, τ, Qt, a, h, k⟩
  refine ⟨G, F, M, τ, _, a, h, fun v F1 H1 M1 d s1 r1 p1 q1 => ?_⟩
  cases d with
  | bl c =>
    refine ⟨c, p1.bl_inv, ?_⟩
    cases c with
    | true =>
      rw [if_pos rfl]
      exact ⟨G, F1, M1, τ, Qt, a.step s1 r1, q1, fun v F2 H2 M2 d s2 => k v F2 H2 M2 d (s1.trans s2)⟩
    | false =>
      rw [if_neg Bool.false_ne_true]
      exact k _ F1 H1 M1 _ s1 r1 (.bl false) q1
  | _ => exact q1.elim)
theorem q_or (ha : QE X E Et a ta) (hb : QE X E Et (.BoolOp .Or (b :: rest) pos) tb) : QE X E Et (.BoolOp .Or (a :: b :: rest) pos) (tOrV' ta tb) := PEimp (pe_or ha hb) (by
  rintro σ H Q ⟨G, F, M, τ, Qt, a, h, k⟩
  refine ⟨G, F, M, τ, _, a, h, fun v F1 H1 M1 d s1 r1 p1 q1 => ?_⟩
  cases d with
  | bl c =>
    refine ⟨c, p1.bl_inv, ?_⟩
    cases c with
    | true =>
      rw [if_pos rfl]
      exact k _ F1 H1 M1 _ s1 r1 (.bl true) q1
    | false =>
      rw [if_neg Bool.false_ne_true]
      exact ⟨G, F1, M1, τ, Qt, a.step s1 r1, q1, fun v F2 H2 M2 d s2 => k v F2 H2 M2 d (s1.trans s2)⟩
  | _ => exact q1.elim)
theorem q_not (ha : QE X E Et a ta) : QE X E Et (.UnaryOp .Not a pos) (tNoV ta) := PEimp (pe_not ha) (by
  rintro σ H Q ⟨G, F, M, τ, Qt, a, h, k⟩
  refine ⟨G, F, M, τ, _, a, h, fun v F1 H1 M1 d s1 r1 p1 q1 => ?_⟩
  cases d with
  | bl c => exact ⟨c, p1.bl_inv, k _ F1 H1 M1 _ s1 r1 (.bl _) q1⟩
  | _ => exact q1.elim)
theorem q_ifE (hc : QT X E Et c t) (ha : QE X E Et a ta) (hb : QE X E Et b tb) : QE X E Et (.IfExp c a b pos) (tIfE t ta tb) := PEimp (pe_ifExp hc ha hb) (by
  rintro σ H Q ⟨G, F, M, τ, Qt, a, h, k⟩
  refine ⟨G, F, M, τ, _, a, h, fun b F1 H1 M1 s1 r1 q1 => ?_⟩
  cases b with
  | true =>
    rw [if_pos rfl] at q1 ⊢
    exact ⟨G, F1, M1, τ, Qt, a.step s1 r1, q1, fun v F2 H2 M2 d s2 => k v F2 H2 M2 d (s1.trans s2)⟩
  | false =>
    rw [if_neg Bool.false_ne_true] at q1 ⊢
    exact ⟨G, F1, M1, τ, Qt, a.step s1 r1, q1, fun v F2 H2 M2 d s2 => k v F2 H2 M2 d (s1.trans s2)⟩)
/-- a < b < c -/
def tCh (r r' : R2t) (ta tb tc : TEt) : TEt := fun τ M Q => ta τ M fun x M1 => tb τ M1 fun y M2 => r x y M2 fun z M3 => match z with
  | .bl k => if k = true then tc τ M3 fun w M4 => r' y w M4 Q else Q (.bl false) M3
  | _ => False
theorem lv_chain {r r' : R2t} {tc : TEt} : ∀ σ H Q, liftE X.K E Et (tCh r r' ta tb tc) σ H Q → tChain (lr2 X.K r) (lr2 X.K r') (liftE X.K E Et ta) (liftE X.K E Et tb) (liftE X.K E Et tc) σ H Q := by
  rintro σ H Q ⟨G, F, M, τ, Qt, a, h, k⟩
  refine ⟨G, F, M, τ, _, a, h, fun v F1 H1 M1 d s1 r1 p1 q1 => ?_⟩
  refine ⟨G, F1, M1, τ, _, a.step s1 r1, q1, fun v2 F2 H2 M2 d2 s2 r2 p2 q2 => ?_⟩
  refine ⟨G, F2, M2, d, d2, _, r2, p1.mono s2, p2, q2, fun z F3 H3 M3 dz s3 r3 p3 q3 => ?_⟩
  cases dz with
  | bl c =>
    refine ⟨c, p3.bl_inv, ?_⟩
    cases c with
    | true =>
      rw [if_pos rfl]
      refine ⟨G, F3, M3, τ, _, a.step ((s1.trans s2).trans s3) r3, q3, fun v4 F4 H4 M4 d4 s4 r4 p4 q4 => ?_⟩
      exact ⟨G, F4, M4, d2, d4, Qt, r4, p2.mono (s3.trans s4), p4, q4, fun v F' H' M' d s => k v F' H' M' d ((((s1.trans s2).trans s3).trans s4).trans s)⟩
    | false =>
      rw [if_neg Bool.false_ne_true]
      exact k _ F3 H3 M3 _ ((s1.trans s2).trans s3) r3 (.bl false) q3
  | _ => exact q3.elim
theorem q_chain {op op' : CmpOp} {r r' : R2t} {tc : TEt} (ho : OpQ X (compareOp op) r) (ho' : OpQ X (compareOp op') r') (ha : QE X E Et a ta) (hb : QE X E Et b tb) (hc : QE X E Et c tc)
    (hm : lastMarks [op, op'] [b, c] = false := by with_unfolding_all rfl) : QE X E Et (.Compare a [op, op'] [b, c] pos) (tCh r r' ta tb tc) := PEimp (pe_chain ho ho' ha hb hc hm) lv_chain
theorem qt_chain {op op' : CmpOp} {r r' : R2t} {tc : TEt} (ho : OpQ X (compareOp op) r) (ho' : OpQ X (compareOp op') r') (ha : QE X E Et a ta) (hb : QE X E Et b tb) (hc : QE X E Et c tc)
    (hm : lastMarks [op, op'] [b, c] = false := by with_unfolding_all rfl) : QT X E Et (.Compare a [op, op'] [b, c] pos) (tBo (tCh r r' ta tb tc)) := PTimp (pt_chain ho ho' ha hb hc hm) (by
  rintro σ H Q ⟨G, F, M, τ, Qt, a, h, k⟩
  refine lv_chain _ _ _ ⟨G, F, M, τ, _, a, h, fun v F1 H1 M1 d s1 r1 p1 q1 => ?_⟩
  cases d with
  | bl c => exact ⟨c, p1.bl_inv, k c F1 H1 M1 s1 r1 q1⟩
  | _ => exact q1.elim)
end
end Tl

namespace Tl
open PySem PySem.Spec PyProof.Rows L2

/-! ### calls of the text's own defs -/
abbrev SpT := List D → MH → VD → XT → Prop
def lSp (K : PySem.W.Frag) (sp : SpT) : Sp := fun vs H Q E => ∃ G F M ds Qt Et, Rel K G F H M ∧ Rps K F vs ds ∧ EL K G F E Et ∧ sp ds M Qt Et ∧ ∀ v F' H' M' d, Same F F' → Rel K G F' H' M' → Rp K F' v d → Qt d M' → Q v H'
/-- a def of the text, called by its name x -/
structure Fn (P : Program) (w : World) (K : PySem.W.Frag) (mg : Str → Option Value) (base : Heap) (CX : CXT) (k : Nat) (x : Str) (sp : SpT) : Prop where
  ok : ∃ fd ps, FnOk P w K mg base CX k (He.ga K x) fd ps (lSp K sp) ∧ Binds K fd ps []
  m : mg x = some (.ref (He.ga K x))
  kp : PySem.W.keepIn K (.ref (He.ga K x)) = true
def tCl (sp : SpT) (Et : XT) (t : TAt) : TEt := fun τ M Q => t τ M fun ds M1 => sp ds M1 Q Et
section
variable {X : Cx} {E E' : XK} {Et Et' : XT} {e : Expr} {es : List Expr} {t : TAt} {pos p : Pos} {sp : SpT} {k : Nat} {x : Str}
theorem lv_call (hE : ∀ G F, EL X.K G F E Et → EL X.K G F E' Et') : ∀ σ H Q, liftE X.K E Et (tCl sp Et' t) σ H Q → tCall (lSp X.K sp) [] E' (liftA X.K E Et t) σ H Q := by
  rintro σ H Q ⟨G, F, M, τ, Qt, a, h, k⟩
  refine ⟨G, F, M, τ, _, a, h, fun vs F1 H1 M1 ds s1 r1 p1 q1 => ?_⟩
  show lSp X.K sp (vs ++ []) H1 Q E'
  rw [List.append_nil]
  exact ⟨G, F1, M1, ds, Qt, Et', r1, p1, hE G F1 (a.el.mono s1), q1, fun v F' H' M' d s => k v F' H' M' d (s1.trans s)⟩
theorem q_call (Fo : Fn X.prog X.w X.K X.mg X.base CX0 k x sp) (hr : Room k X.A) (ha : QA X E Et (e :: es) t) (hg : Gl X x := by rfl) (hdb : (x == ("__debug__" : Str)) = false := by decide)
    (he : starEach (e :: es) X.env = (false, eval e X.env) :: starEach es X.env := by rfl) (hpl : (backTo pos (starEach es X.env)).any (·.1) = false := by rfl) : QE X E Et (.Call (.Name x p) (e :: es) [] pos) (tCl sp Et0 t) := by
  obtain ⟨⟨fd, ps, F1, b⟩, m, kp⟩ := Fo
  exact PEimp (pe_call F1 hr hg m kp b .nil pass0 ha hdb he hpl) (lv_call fun _ _ _ => .never)
theorem q_call0 (Fo : Fn X.prog X.w X.K X.mg X.base CX0 k x sp) (hr : Room k X.A) (hg : Gl X x := by rfl) (hdb : (x == ("__debug__" : Str)) = false := by decide) : QE X E Et (.Call (.Name x p) [] [] pos) (tCl sp Et0 tN) := by
  obtain ⟨⟨fd, ps, F1, b⟩, m, kp⟩ := Fo
  refine PEimp (pe_call0 F1 hr hg m kp b .nil pass0 hdb) fun σ H Q h => ?_
  obtain ⟨G, F, M, τ, Qt, a, h, k⟩ := h
  exact ⟨G, F, M, [], Qt, Et0, a.rel, .nil, .never, h, k⟩
end
/-! ### statements -/
def sNx : TSt := fun D τ M => D.nx τ M
def sSq (t u : TSt) : TSt := fun D τ M => t { D with nx := u D } τ M
def sBk : TSt := fun D τ M => D.bk τ M
def sCt : TSt := fun D τ M => D.ct τ M
def sDr (t : TEt) : TSt := fun D τ M => t τ M fun _ M1 => D.nx τ M1
def sRt (t : TEt) : TSt := fun D τ M => t τ M D.rt
def sRtN : TSt := fun D _ M => D.rt .non M
def sIf (c : TTt) (t u : TSt) : TSt := fun D τ M => c τ M fun b M1 => if b = true then t D τ M1 else u D τ M1
abbrev TGt := D → Sg → MH → (Sg → MH → Prop) → Prop
abbrev TGst := List D → Sg → MH → (Sg → MH → Prop) → Prop
def liftG (K : PySem.W.Frag) (E : XK) (Et : XT) (t : TGt) : TG := fun v σ H Q => ∃ G F M τ d Qt, At K E Et G F H M σ τ ∧ Rp K F v d ∧ t d τ M Qt ∧ ∀ F' H' M' σ' τ', Same F F' → At K E Et G F' H' M' σ' τ' → Qt τ' M' → Q σ' H'
def liftGs (K : PySem.W.Frag) (E : XK) (Et : XT) (t : TGst) : TGs := fun vs σ H Q => ∃ G F M τ ds Qt, At K E Et G F H M σ τ ∧ Rps K F vs ds ∧ t ds τ M Qt ∧ ∀ F' H' M' σ' τ', Same F F' → At K E Et G F' H' M' σ' τ' → Qt τ' M' → Q σ' H'
def gN (i : Nat) : TGt := fun d τ M Q => Q (τ.set i (some d)) M
def gNl : TGst := fun ds τ M Q => match ds with
  | [] => Q τ M
  | _ :: _ => False
def gCs (t : TGt) (u : TGst) : TGst := fun ds τ M Q => match ds with
  | [] => False
  | d :: r => t d τ M fun τ' M' => u r τ' M' Q
def gTp (n : Nat) (t : TGst) : TGt := fun d τ M Q => match d with
  | .tup ds => ds.length = n ∧ t ds τ M Q
  | _ => False
/-- o[i] = v by values -/
abbrev TSett := D → D → D → MH → (MH → Prop) → Prop
def lSet (K : PySem.W.Frag) (t : TSett) : TSet := fun o i v H Q => ∃ G F M od idd vd Qt, Rel K G F H M ∧ Rp K F o od ∧ Rp K F i idd ∧ Rp K F v vd ∧ t od idd vd M Qt ∧ ∀ F' H' M', Same F F' → Rel K G F' H' M' → Qt M' → Q H'
def gSb (to ti : TEt) (t : TSett) : TGt := fun v τ M Q => to τ M fun o M1 => ti τ M1 fun i M2 => t o i v M2 fun M3 => Q τ M3
abbrev QG (X : Cx) (E : XK) (Et : XT) (e : Expr) (t : TGt) : Prop := PG X e (liftG X.K E Et t)
abbrev QGs (X : Cx) (E : XK) (Et : XT) (e : List Expr) (t : TGst) : Prop := PGs X e (liftGs X.K E Et t)
def sAs (te : TEt) (g : TGt) : TSt := fun D τ M => te τ M fun x M1 => g x τ M1 D.nx
section
variable {X : Cx} {E : XK} {Et : XT} {st : Stmt} {rest : List Stmt} {t u : TSt} {e : Expr} {te : TEt} {pos : Pos}
theorem qss_nil : QSs X E Et [] sNx := PSsimp pss_nil (by
  rintro D σ H ⟨G, F, M, τ, Dt, a, en, h⟩
  exact en.nx F H M σ τ (Same.refl _) a h)
theorem qss_cons (h1 : QS X E Et st t) (h2 : QSs X E Et rest u) : QSs X E Et (st :: rest) (sSq t u) := PSsimp (pss_cons h1 h2) (by
  rintro D σ H ⟨G, F, M, τ, Dt, a, en, h⟩
  exact ⟨G, F, M, τ, { Dt with nx := u Dt }, a, ⟨fun F' H' M' σ' τ' s a' h' => ⟨G, F', M', τ', Dt, a', en.mono s, h'⟩, en.rt, en.bk, en.ct⟩, h⟩)
theorem qss_one (h1 : QS X E Et st t) : QSs X E Et [st] t := pss_one h1
theorem qs_pass : QS X E Et (.Pass pos) sNx := PSimp ps_pass (by
  rintro D σ H ⟨G, F, M, τ, Dt, a, en, h⟩
  exact en.nx F H M σ τ (Same.refl _) a h)
theorem qs_break : QS X E Et (.Break pos) sBk := PSimp ps_break (by
  rintro D σ H ⟨G, F, M, τ, Dt, a, en, h⟩
  exact en.bk F H M σ τ (Same.refl _) a h)
theorem qs_continue : QS X E Et (.Continue pos) sCt := PSimp ps_continue (by
  rintro D σ H ⟨G, F, M, τ, Dt, a, en, h⟩
  exact en.ct F H M σ τ (Same.refl _) a h)
theorem qs_doc {x j pos pos'} : QS X E Et (.Expr (.Constant (.str x) j pos) pos') sNx := PSimp ps_doc (by
  rintro D σ H ⟨G, F, M, τ, Dt, a, en, h⟩
  exact en.nx F H M σ τ (Same.refl _) a h)
theorem qs_expr (he : QE X E Et e te) (hs : swapsWith e none pos.line X.env = pure false := by rfl) : QS X E Et (.Expr e pos) (sDr te) := PSimp (ps_expr he hs) (by
  rintro D σ H ⟨G, F, M, τ, Dt, a, en, h⟩
  exact ⟨G, F, M, τ, _, a, h, fun v F' H' M' d s r p q => en.nx F' H' M' σ τ s (a.step s r) q⟩)
theorem qs_ret (he : QE X E Et e te) : QS X E Et (.Return (some e) pos) (sRt te) := PSimp (ps_ret he) (by
  rintro D σ H ⟨G, F, M, τ, Dt, a, en, h⟩
  exact ⟨G, F, M, τ, _, a, h, fun v F' H' M' d s r p q => en.rt F' H' M' v d s r p q⟩)
theorem qs_retN : QS X E Et (.Return none pos) sRtN := PSimp ps_retN (by
  rintro D σ H ⟨G, F, M, τ, Dt, a, en, h⟩
  exact en.rt F H M _ _ (Same.refl _) a.rel .non h)
theorem qs_if {c : Expr} {a b : List Stmt} {tc : TTt} (hc : QT X E Et c tc) (ha : QSs X E Et a t) (hb : QSs X E Et b u) : QS X E Et (.If c a b pos) (sIf tc t u) := PSimp (ps_if hc ha hb) (by
  rintro D σ H ⟨G, F, M, τ, Dt, a, en, h⟩
  refine ⟨G, F, M, τ, _, a, h, fun b F' H' M' s r q => ?_⟩
  cases b with
  | true =>
    rw [if_pos rfl] at q ⊢
    exact ⟨G, F', M', τ, Dt, a.step s r, en.mono s, q⟩
  | false =>
    rw [if_neg Bool.false_ne_true] at q ⊢
    exact ⟨G, F', M', τ, Dt, a.step s r, en.mono s, q⟩)
/-! targets -/
theorem qg_name {i : Nat} {x : Str} (hN : X.N.Nodup) (hi : X.N[i]? = some x := by rfl) (hx : Loc X.env.scope x := by first | exact Or.inl rfl | exact Or.inr rfl) (hf : X.fn x = true ∨ X.env.scope.names.lookup x = some .local := by first | exact .inl rfl | exact .inr rfl | assumption) : QG X E Et (.Name x pos) (gN i) := by
  refine ⟨fun pins s σ H v u Q I r h => ?_⟩
  obtain ⟨G, F, M, τ, d, Qt, a, p, h, k⟩ := h
  exact (pg_name hN hi hx hf).run pins s σ H v u Q I r (k F H M _ _ (Same.refl _) (a.store p) h)
theorem qgs_nil : QGs X E Et [] gNl := by
  refine ⟨fun pins s σ H vs us Q I r h => ?_⟩
  obtain ⟨G, F, M, τ, ds, Qt, a, p, h, k⟩ := h
  cases p with
  | nil => exact pgs_nil.run pins s σ H [] us Q I r ⟨rfl, k F H M _ _ (Same.refl _) a h⟩
  | cons _ _ => exact (show False from h).elim
theorem qgs_cons {es : List Expr} {t : TGt} {u : TGst} (h1 : QG X E Et e t) (h2 : QGs X E Et es u)
    (hs : (assignEach (e :: es) X.env).map (·.2) = assign e X.env :: (assignEach es X.env).map (·.2) := by rfl) : QGs X E Et (e :: es) (gCs t u) := by
  refine ⟨fun pins s σ H vs us Q I r h => ?_⟩
  obtain ⟨G, F, M, τ, ds, Qt, a, p, h, k⟩ := h
  cases p with
  | nil => exact (show False from h).elim
  | cons p1 p2 =>
    refine (pgs_cons h1 h2 hs).run pins s σ H _ us Q I r ⟨_, _, rfl, G, F, M, τ, _, _, a, p1, h, fun F1 H1 M1 σ1 τ1 s1 a1 q1 => ?_⟩
    exact ⟨G, F1, M1, τ1, _, Qt, a1, p2.mono s1, q1, fun F' H' M' σ' τ' s => k F' H' M' σ' τ' (s1.trans s)⟩
theorem qg_tup {es : List Expr} {k : Nat} {t : TGst} {n : Nat} (hc : X.calm = true) (h : QGs X E Et es t)
    (hn : (assignEach es X.env).length = n := by rfl) (hst : (assignEach es X.env).findIdx? (·.1) = none := by rfl) : QG X E Et (.Tuple es k pos) (gTp n t) := by
  refine ⟨fun pins s σ H v u Q I r hw => ?_⟩
  obtain ⟨G, F, M, τ, d, Qt, a, p, hw, k⟩ := hw
  cases p with
  | tup h0 r0 =>
    obtain ⟨hl, hw⟩ := (show _ ∧ _ from hw)
    exact (pg_tup hc h hn hst).run pins s σ H _ u Q I r ⟨_, _, rfl, SqT.of (a.rel.sub _ _ h0), by rw [r0.length]; exact hl, G, F, M, τ, _, Qt, a, r0, hw, k⟩
  | _ => exact (show False from hw).elim
theorem qg_sub {o i : Expr} {to ti : TEt} {t : TSett} (ho : QE X E Et o to) (hi : QE X E Et i ti) (hs : PSet X (lSet X.K t))
    (ha : ∀ v, assign (.Subscript o i pos) X.env v = (do
      let ov ← holding [v] (eval o X.env)
      let iv ← holding [v, ov] (eval i X.env)
      standAt pos
      holding [v, ov, iv] (setItem ov iv v)
      release [v, ov, iv] []) := by intro _; rfl) : QG X E Et (.Subscript o i pos) (gSb to ti t) := by
  refine ⟨fun pins s σ H v u Q I r hw => ?_⟩
  obtain ⟨G, F, M, τ, d, Qt, a, p, hw, k⟩ := hw
  refine (pg_sub ho hi hs ha).run pins s σ H v u Q I r ?_
  refine ⟨G, F, M, τ, _, a, hw, fun v1 F1 H1 M1 d1 s1 r1 p1 q1 => ?_⟩
  refine ⟨G, F1, M1, τ, _, a.step s1 r1, q1, fun v2 F2 H2 M2 d2 s2 r2 p2 q2 => ?_⟩
  exact ⟨G, F2, M2, d1, d2, d, _, r2, p1.mono s2, p2, p.mono (s1.trans s2), q2, fun F3 H3 M3 s3 r3 q3 => k F3 H3 M3 σ τ ((s1.trans s2).trans s3) (a.step ((s1.trans s2).trans s3) r3) q3⟩
theorem lv_asg {g : TGt} : ∀ D σ H, liftS X.K E Et (sAs te g) D σ H → tAsg (liftE X.K E Et te) (liftG X.K E Et g) D σ H := by
  rintro D σ H ⟨G, F, M, τ, Dt, a, en, h⟩
  refine ⟨G, F, M, τ, _, a, h, fun v F1 H1 M1 d s1 r1 p1 q1 => ?_⟩
  exact ⟨G, F1, M1, τ, d, _, a.step s1 r1, p1, q1, fun F' H' M' σ' τ' s a' q => en.nx F' H' M' σ' τ' (s1.trans s) a' q⟩
theorem qs_asg {tg : Expr} {g : TGt} (he : QE X E Et e te) (hg : QG X E Et tg g) (hs : swapsWithSole [tg] e pos.line X.env = pure false := by rfl) (hw : swappedStores [tg] e X.env = pure none := by rfl)
    (h1 : (assignEach [tg] X.env).map (·.2) = [assign tg X.env] := by rfl) : QS X E Et (.Assign [tg] e pos) (sAs te g) := PSimp (ps_asg he hg hs hw h1) lv_asg
theorem qs_set {i : Nat} {x : Str} {pos' : Pos} (hN : X.N.Nodup) (he : QE X E Et e te) (hi : X.N[i]? = some x := by rfl) (hx : Loc X.env.scope x := by first | exact Or.inl rfl | exact Or.inr rfl) (hs : swapsWith e (some (.Name x pos')) pos.line X.env = pure false := by rfl) (hf : X.fn x = true ∨ X.env.scope.names.lookup x = some .local := by first | exact .inl rfl | exact .inr rfl | assumption) :
    QS X E Et (.Assign [.Name x pos'] e pos) (sAs te (gN i)) := PSimp (ps_set hN hi hx he hs hf) (by
  rintro D σ H ⟨G, F, M, τ, Dt, a, en, h⟩
  refine ⟨G, F, M, τ, _, a, h, fun v F1 H1 M1 d s1 r1 p1 q1 => ?_⟩
  exact en.nx F1 H1 M1 _ _ s1 ((a.step s1 r1).store p1) q1)
/-- x += e -/
def sAg (i : Nat) (te : TEt) (r : R2t) : TSt := fun D τ M => match nth τ i with
  | some x => te τ M fun y M1 => r x y M1 fun z M2 => D.nx (τ.set i (some z)) M2
  | none => False
theorem qs_aug {i : Nat} {x : Str} {op : Operator} {r : R2t} {pos' : Pos} (hN : X.N.Nodup) (ho : OpQ X (inplaceOp op) r) (he : QE X E Et e te) (hi : X.N[i]? = some x := by rfl) (hx : Loc X.env.scope x := by first | exact Or.inl rfl | exact Or.inr rfl) (hf : X.fn x = true ∨ X.env.scope.names.lookup x = some .local := by first | exact .inl rfl | exact .inr rfl | assumption) :
    QS X E Et (.AugAssign (.Name x pos') op e pos) (sAg i te r) := PSimp (ps_aug hN hi hx he (fun pins s σ H x y v u Q I rx ry h => ho pins s σ H x y v u Q I rx ry h) hf) (by
  rintro D σ H ⟨G, F, M, τ, Dt, a, en, h⟩
  unfold sAg at h
  cases q : nth τ i with
  | none => rw [q] at h; exact h.elim
  | some d =>
    rw [q] at h
    obtain ⟨v, h1, h2⟩ := a.sg.2 i d (nth_get q)
    refine ⟨v, h1, G, F, M, τ, _, a, h, fun v1 F1 H1 M1 d1 s1 r1 p1 q1 => ?_⟩
    exact ⟨G, F1, M1, d, d1, _, r1, h2.mono s1, p1, q1, fun v2 F2 H2 M2 d2 s2 r2 p2 q2 => en.nx F2 H2 M2 _ _ (s1.trans s2) ((a.step (s1.trans s2) r2).store p2) q2⟩)
end
/-! ### loops -/
/-- while: W by a measure -/
def sWh (c : TTt) (tb : TSt) : TSt := fun D τ M => ∃ W : Nat → Sg → MH → Prop, (∃ m, W m τ M) ∧ ∀ m τ M, W m τ M →
  c τ M fun b M1 => if b = true then tb { D with nx := fun τ' M' => ∃ m', m' < m ∧ W m' τ' M', ct := fun τ' M' => ∃ m', m' < m ∧ W m' τ' M', bk := D.nx } τ M1 else D.nx τ M1
section
variable {X : Cx} {E : XK} {Et : XT} {pos : Pos}
theorem qs_while {c : Expr} {body : List Stmt} {tc : TTt} {tb : TSt} (hp : PassesOwn (model X.prog X.w) X.A X.env X.xe) (hc : QT X E Et c tc) (hb : QSs X E Et body tb) : QS X E Et (.While c body [] pos) (sWh tc tb) := PSimp (ps_while hp hc hb) (by
  rintro D σ H ⟨G, F0, M0, τ0, Dt, a0, en0, W, ⟨m0, w0⟩, turn⟩
  refine ⟨fun m σ H => ∃ F M τ, Same F0 F ∧ At X.K E Et G F H M σ τ ∧ W m τ M, ⟨m0, F0, M0, τ0, Same.refl _, a0, w0⟩, ?_⟩
  rintro m σ H ⟨F, M, τ, s, a, hw⟩
  have en := en0.mono s
  refine ⟨G, F, M, τ, _, a, turn m τ M hw, fun b F1 H1 M1 s1 r1 q1 => ?_⟩
  cases b with
  | true =>
    rw [if_pos rfl] at q1 ⊢
    refine ⟨fun σ' H' => ∃ m', m' < m ∧ ∃ F M τ, Same F0 F ∧ At X.K E Et G F H' M σ' τ ∧ W m' τ M, fun σ' H' z => z, G, F1, M1, τ, _, a.step s1 r1, ?_, q1⟩
    exact ⟨fun F' H' M' σ' τ' s2 a2 ⟨m', hm, w'⟩ => ⟨m', hm, F', M', τ', (s.trans s1).trans s2, a2, w'⟩, (en.mono s1).rt, fun F' H' M' σ' τ' s2 a2 q => (en.mono s1).nx F' H' M' σ' τ' s2 a2 q,
      fun F' H' M' σ' τ' s2 a2 ⟨m', hm, w'⟩ => ⟨m', hm, F', M', τ', (s.trans s1).trans s2, a2, w'⟩⟩
  | false =>
    rw [if_neg Bool.false_ne_true] at q1 ⊢
    exact en.nx F1 H1 M1 σ τ s1 (a.step s1 r1) q1)
end
/-- what is walked: its items, as long as src holds -/
structure Its where
  items : List D
  src : MH → Prop
abbrev TIt := Sg → MH → (Its → MH → Prop) → Prop
/-- J walks the items: at any state in which src holds -/
structure ItOk (K : PySem.W.Frag) (F0 : Hp) (J : It) (I : Its) : Prop where
  go : ∀ i G F H M x, Same F0 F → Rel K G F H M → I.src M → I.items[i]? = some x → J.go i H
  yld : ∀ i G F H M x v H', Same F0 F → Rel K G F H M → I.src M → I.items[i]? = some x → J.yld i H v H' → ∃ F', Same F F' ∧ Rel K G F' H' M ∧ Rp K F' v x
  stop : ∀ i G F H M, Same F0 F → Rel K G F H M → I.src M → I.items.length ≤ i → J.stop i H
def liftI (K : PySem.W.Frag) (E : XK) (Et : XT) (t : TIt) : TI := fun σ H R => ∃ G F M τ Qt, At K E Et G F H M σ τ ∧ t τ M Qt ∧ ∀ J I F' H' M', Same F F' → Rel K G F' H' M' → ItOk K F' J I → Qt I M' → R J H'
abbrev QI (X : Cx) (E : XK) (Et : XT) (tg iter : Expr) (t : TIt) : Prop := PI X tg iter (liftI X.K E Et t)
def sFo (ti : TIt) (g : TGt) (tb : TSt) : TSt := fun D τ M => ti τ M fun I M1 => ∃ W : Nat → Sg → MH → Prop, W 0 τ M1 ∧ (∀ i τ M, W i τ M → I.src M) ∧
  (∀ i x τ M, I.items[i]? = some x → W i τ M → g x τ M fun τ2 M2 => tb { D with nx := W (i + 1), ct := W (i + 1), bk := D.nx } τ2 M2) ∧ ∀ τ M, W I.items.length τ M → D.nx τ M
section
variable {X : Cx} {E : XK} {Et : XT} {pos : Pos}
theorem qs_for {tg iter : Expr} {body : List Stmt} {ti : TIt} {g : TGt} {tb : TSt} (hp : PassesOwn (model X.prog X.w) X.A X.env X.xe) (hc : X.calm = true) (hi : QI X E Et tg iter ti) (hg : QG X E Et tg g) (hb : QSs X E Et body tb)
    (hs : ∀ x, foldedSetIterable iter X.env x = pure x := by intro _; rfl) : QS X E Et (.For tg iter body [] pos) (sFo ti g tb) := PSimp (ps_for hp hc hi hg hb hs) (by
  rintro D σ H ⟨G, F0, M0, τ0, Dt, a0, en0, h⟩
  refine ⟨G, F0, M0, τ0, _, a0, h, fun J I F1 H1 M1 s1 r1 ok q1 => ?_⟩
  obtain ⟨W, w0, ws, turn, done⟩ := q1
  refine ⟨fun i m σ H => m = I.items.length - i ∧ i ≤ I.items.length ∧ ∃ F M τ, Same F1 F ∧ At X.K E Et G F H M σ τ ∧ W i τ M, ⟨I.items.length, by simp, Nat.zero_le _, F1, M1, τ0, Same.refl _, a0.step s1 r1, w0⟩, ?_⟩
  rintro i m σ H ⟨rfl, hi, F, M, τ, s, a, hw⟩
  have en := en0.mono (s1.trans s)
  by_cases hlt : i < I.items.length
  · have hx : I.items[i]? = some I.items[i] := List.getElem?_eq_getElem hlt
    refine .inr ⟨ok.go i G F H M _ s a.rel (ws i τ M hw) hx, fun σ' H' => I.items.length - (i + 1) < I.items.length - i ∧ ∃ F M τ, Same F1 F ∧ At X.K E Et G F H' M σ' τ ∧ W (i + 1) τ M, fun σ' H' z => ⟨_, z.1, rfl, hlt, z.2⟩, fun v H' y => ?_⟩
    obtain ⟨F2, s2, r2, p2⟩ := ok.yld i G F H M _ v H' s a.rel (ws i τ M hw) hx y
    have hm : I.items.length - (i + 1) < I.items.length - i := by omega
    refine ⟨G, F2, M, τ, _, _, a.step s2 r2, p2, turn i _ τ M hx hw, fun F3 H3 M3 σ3 τ3 s3 a3 q3 => ?_⟩
    refine ⟨G, F3, M3, τ3, _, a3, ?_, q3⟩
    exact ⟨fun F' H' M' σ' τ' s4 a4 w' => ⟨hm, F', M', τ', ((s.trans s2).trans s3).trans s4, a4, w'⟩, (en.mono (s2.trans s3)).rt, fun F' H' M' σ' τ' s4 a4 q => (en.mono (s2.trans s3)).nx F' H' M' σ' τ' s4 a4 q,
      fun F' H' M' σ' τ' s4 a4 w' => ⟨hm, F', M', τ', ((s.trans s2).trans s3).trans s4, a4, w'⟩⟩
  · have e : i = I.items.length := by omega
    subst e
    exact .inl ⟨ok.stop _ G F H M s a.rel (ws _ τ M hw) (Nat.le_refl _), en.nx F H M σ τ (Same.refl _) a (done τ M hw)⟩)
end
/-- the items of a list that stands, frozen or not -/
def lstOf (M : MH) : D → Option (List D)
  | .lst ds => some ds
  | .scr ds => some ds
  | .ref a => match M a with
    | some (.lst ds) => some ds
    | _ => none
  | _ => none
def tupOf : D → Option (List D)
  | .tup ds => some ds
  | .tab ds => some ds
  | _ => none
section
variable {K : PySem.W.Frag}
theorem lst_of {G F H : Hp} {M : MH} {v : V} {d : D} {ds : List D} (R : Rel K G F H M) (p : Rp K F v d) (e : lstOf M d = some ds) : ∃ a vs, v = .ref a ∧ SqL K H a vs ∧ Rps K F vs ds := by
  cases p with
  | lst h r =>
    cases e
    exact ⟨_, _, rfl, SqL.of (R.sub _ _ h), r⟩
  | scr h r =>
    cases e
    exact ⟨_, _, rfl, R.sub.seq h, r⟩
  | ref a =>
    unfold lstOf at e
    cases q : M a with
    | none => simp only [q] at e; cases e
    | some o =>
      simp only [q] at e
      obtain ⟨_, u, hu, r⟩ := R.chg a o q
      cases o with
      | lst xs =>
        cases e
        cases u with
        | lst vs => exact ⟨a, vs, rfl, SqL.of hu, r⟩
        | _ => exact (r : False).elim
      | _ => cases e
  | _ => cases e
theorem tup_of {G F H : Hp} {M : MH} {v : V} {d : D} {ds : List D} (R : Rel K G F H M) (p : Rp K F v d) (e : tupOf d = some ds) : ∃ a vs, v = .ref a ∧ SqT K H a vs ∧ Rps K F vs ds := by
  cases p with
  | tup h r =>
    cases e
    exact ⟨_, _, rfl, SqT.of (R.sub _ _ h), r⟩
  | tab h r =>
    cases e
    exact ⟨_, _, rfl, SameT R.sub h, r⟩
  | _ => cases e
end
/-- for x in xs -/
def iLs (te : TEt) : TIt := fun τ M Q => te τ M fun d M1 => match lstOf M1 d with
  | some ds => Q ⟨ds, fun M => lstOf M d = some ds⟩ M1
  | none => False
def iTu (te : TEt) : TIt := fun τ M Q => te τ M fun d M1 => match tupOf d with
  | some ds => Q ⟨ds, fun _ => True⟩ M1
  | none => False
def iR1 (ta : TAt) : TIt := fun τ M Q => ta τ M fun ds M1 => match ds with
  | [.int j] => (-(2 ^ 62) ≤ j ∧ j < 2 ^ 62) ∧ Q ⟨(List.range j.toNat).map fun i => .int (i : Nat), fun _ => True⟩ M1
  | _ => False
def iR2 (ta : TAt) : TIt := fun τ M Q => ta τ M fun ds M1 => match ds with
  | [.int i, .int j] => (-(2 ^ 62) ≤ i ∧ i < 2 ^ 62 ∧ -(2 ^ 62) ≤ j ∧ j < 2 ^ 62) ∧ Q ⟨(List.range (j - i).toNat).map fun k => .int (i + (k : Nat)), fun _ => True⟩ M1
  | _ => False
theorem SqL_get {K : PySem.W.Frag} {H : Hp} {a : Addr} {vs : List V} (h : SqL K H a vs) {i : Nat} {v x : V} (hx : vs[i]? = some x) (f : ∀ xs, SqL K H a xs → xs[i]? = some v) : v = x := Option.some.inj ((f _ h).symm.trans hx)
theorem SqT_get {K : PySem.W.Frag} {H : Hp} {a : Addr} {vs : List V} (h : SqT K H a vs) {i : Nat} {v x : V} (hx : vs[i]? = some x) (f : ∀ xs, SqT K H a xs → xs[i]? = some v) : v = x := Option.some.inj ((f _ h).symm.trans hx)
section
variable {X : Cx} {E : XK} {Et : XT} {pos : Pos} {tg e : Expr} {te : TEt}
theorem rp_ref {K : PySem.W.Frag} {F F' : Hp} {a : Addr} {d : D} (s : Same F F') (p : Rp K F (.ref a) d) : Rp K F' (.ref a) d := p.mono s
theorem itOk_list {K : PySem.W.Frag} {F0 : Hp} {a : Addr} {d : D} {ds : List D} (p : Rp K F0 (.ref a) d) : ItOk K F0 (Itl K a) ⟨ds, fun M => lstOf M d = some ds⟩ where
  go := fun i G F H M x s R h hx => by
    obtain ⟨b, vs, e, hs, r⟩ := lst_of R (p.mono s) h
    cases e
    obtain ⟨v, hv, _⟩ := r.getD hx
    exact ⟨vs, v, hs, hv⟩
  yld := fun i G F H M x v H' s R h hx y => by
    obtain ⟨b, vs, e, hs, r⟩ := lst_of R (p.mono s) h
    cases e
    obtain ⟨v', hv, rv⟩ := r.getD hx
    obtain ⟨rfl, f⟩ := y
    have := SqL_get hs hv f
    subst this
    exact ⟨F, Same.refl _, R, rv⟩
  stop := fun i G F H M s R h hl => by
    obtain ⟨b, vs, e, hs, r⟩ := lst_of R (p.mono s) h
    cases e
    exact ⟨vs, hs, by rw [r.length]; exact hl⟩
theorem itOk_tup {K : PySem.W.Frag} {F0 : Hp} {a : Addr} {d : D} {ds : List D} (p : Rp K F0 (.ref a) d) (h : tupOf d = some ds) : ItOk K F0 (Itt K a) ⟨ds, fun _ => True⟩ where
  go := fun i G F H M x s R _ hx => by
    obtain ⟨b, vs, e, hs, r⟩ := tup_of R (p.mono s) h
    cases e
    obtain ⟨v, hv, _⟩ := r.getD hx
    exact ⟨vs, v, hs, hv⟩
  yld := fun i G F H M x v H' s R _ hx y => by
    obtain ⟨b, vs, e, hs, r⟩ := tup_of R (p.mono s) h
    cases e
    obtain ⟨v', hv, rv⟩ := r.getD hx
    obtain ⟨rfl, f⟩ := y
    have := SqT_get hs hv f
    subst this
    exact ⟨F, Same.refl _, R, rv⟩
  stop := fun i G F H M s R _ hl => by
    obtain ⟨b, vs, e, hs, r⟩ := tup_of R (p.mono s) h
    cases e
    exact ⟨vs, hs, by rw [r.length]; exact hl⟩
theorem qi_list (he : QE X E Et e te) : QI X E Et tg e (iLs te) := by
  refine ⟨fun pins s σ H R I h => (pi_list he).run pins s σ H R I ?_⟩
  obtain ⟨G, F, M, τ, Qt, a, h, k⟩ := h
  refine ⟨G, F, M, τ, _, a, h, fun v F1 H1 M1 d s1 r1 p1 q1 => ?_⟩
  cases q : lstOf M1 d with
  | none => simp only [q] at q1
  | some ds =>
    simp only [q] at q1
    obtain ⟨b, vs, rfl, hs, r⟩ := lst_of r1 p1 q
    exact ⟨b, rfl, ⟨vs, hs⟩, k _ _ F1 H1 M1 s1 r1 (itOk_list p1) q1⟩
theorem qi_tup (he : QE X E Et e te) : QI X E Et tg e (iTu te) := by
  refine ⟨fun pins s σ H R I h => (pi_tup he).run pins s σ H R I ?_⟩
  obtain ⟨G, F, M, τ, Qt, a, h, k⟩ := h
  refine ⟨G, F, M, τ, _, a, h, fun v F1 H1 M1 d s1 r1 p1 q1 => ?_⟩
  cases q : tupOf d with
  | none => simp only [q] at q1
  | some ds =>
    simp only [q] at q1
    obtain ⟨b, vs, rfl, hs, r⟩ := tup_of r1 p1 q
    exact ⟨b, rfl, ⟨vs, hs⟩, k _ _ F1 H1 M1 s1 r1 (itOk_tup p1 q) q1⟩
theorem range_at {n i : Nat} {f : Nat → D} {x : D} (h : ((List.range n).map f)[i]? = some x) : i < n ∧ x = f i := by
  rw [List.getElem?_map] at h
  by_cases hi : i < n
  · rw [List.getElem?_range hi] at h
    exact ⟨hi, (Option.some.inj h).symm⟩
  · rw [List.getElem?_eq_none (by rw [List.length_range]; omega)] at h
    cases h
theorem itOk_range {K : PySem.W.Frag} {F0 : Hp} {lo : Int} {n : Nat} : ItOk K F0 (Itr lo n) ⟨(List.range n).map fun k => .int (lo + (k : Nat)), fun _ => True⟩ where
  go := fun i G F H M x s R _ hx => (range_at hx).1
  yld := fun i G F H M x v H' s R _ hx y => by
    obtain ⟨rfl, rfl⟩ := y
    obtain ⟨_, rfl⟩ := range_at hx
    exact ⟨F, Same.refl _, R, .int _⟩
  stop := fun i G F H M s R _ hl => by
    rw [List.length_map, List.length_range] at hl
    exact hl
theorem Rp.int_inv {K : PySem.W.Frag} {F : Hp} {v : V} {c : Int} (h : Rp K F v (.int c)) : v = .int c := by cases h; rfl
theorem Rp.str_inv {K : PySem.W.Frag} {F : Hp} {v : V} {c : Str} (h : Rp K F v (.str c)) : v = .str c := by cases h; rfl
theorem qi_range1 {a : Expr} {ta : TAt} {p : Pos} (hm : X.mg "range" = none) (ha : QA X E Et [a] ta) (hg : Gl X "range" := by rfl) (hs : starEach [a] X.env = [(false, eval a X.env)] := by rfl) : QI X E Et tg (.Call (.Name "range" p) [a] [] pos) (iR1 ta) := by
  refine ⟨fun pins s σ H R I h => (pi_range1 hg hm ha hs).run pins s σ H R I ?_⟩
  obtain ⟨G, F, M, τ, Qt, a, h, k⟩ := h
  refine ⟨G, F, M, τ, _, a, h, fun vs F1 H1 M1 ds s1 r1 p1 q1 => ?_⟩
  match ds, p1, q1 with
  | [.int j], .cons h1 .nil, q1 =>
    cases h1
    obtain ⟨⟨b1, b2⟩, q1⟩ := q1
    refine ⟨j, rfl, b1, b2, k _ _ F1 H1 M1 s1 r1 itOk_range ?_⟩
    simpa using q1
theorem qi_range2 {a b : Expr} {ta : TAt} {p : Pos} (hm : X.mg "range" = none) (ha : QA X E Et [a, b] ta) (hg : Gl X "range" := by rfl) (hs : starEach [a, b] X.env = [(false, eval a X.env), (false, eval b X.env)] := by rfl) (hs2 : starEach [b] X.env = [(false, eval b X.env)] := by rfl) : QI X E Et tg (.Call (.Name "range" p) [a, b] [] pos) (iR2 ta) := by
  refine ⟨fun pins s σ H R I h => (pi_range2 hg hm ha hs hs2).run pins s σ H R I ?_⟩
  obtain ⟨G, F, M, τ, Qt, a, h, k⟩ := h
  refine ⟨G, F, M, τ, _, a, h, fun vs F1 H1 M1 ds s1 r1 p1 q1 => ?_⟩
  match ds, p1, q1 with
  | [.int i, .int j], .cons h1 (.cons h2 .nil), q1 =>
    cases h1
    cases h2
    obtain ⟨b, q1⟩ := q1
    exact ⟨i, j, rfl, b, k _ _ F1 H1 M1 s1 r1 itOk_range q1⟩
end
end Tl

namespace Tl
open PySem PySem.Spec PyProof.Rows L2

/-! ### numbers -/
section
variable {K : PySem.W.Frag}
theorem lr2_int {C : Int → Int → Prop} {g : Int → Int → V} {gD : Int → Int → D} {r : R2t} (hg : ∀ F i j, Rp K F (g i j) (gD i j))
    (hr : ∀ x y M Q, r x y M Q → ∃ i j, x = .int i ∧ y = .int j ∧ C i j ∧ Q (gD i j) M) : ∀ x y H Q, lr2 K r x y H Q → rI C g x y H Q := by
  rintro x y H Q ⟨G, F, M, dx, dy, Qt, R, px, py, h, k⟩
  obtain ⟨i, j, rfl, rfl, c, q⟩ := hr dx dy M Qt h
  exact ⟨i, j, px.int_inv, py.int_inv, c, k _ F H M _ (Same.refl _) R (hg F i j) q⟩
theorem lr2_int0 {g : Int → Int → V} {gD : Int → Int → D} {r : R2t} (hg : ∀ F i j, Rp K F (g i j) (gD i j))
    (hr : ∀ x y M Q, r x y M Q → ∃ i j, x = .int i ∧ y = .int j ∧ Q (gD i j) M) : ∀ x y H Q, lr2 K r x y H Q → rI0 g x y H Q := by
  rintro x y H Q ⟨G, F, M, dx, dy, Qt, R, px, py, h, k⟩
  obtain ⟨i, j, rfl, rfl, q⟩ := hr dx dy M Qt h
  exact ⟨i, j, px.int_inv, py.int_inv, k _ F H M _ (Same.refl _) R (hg F i j) q⟩
end
/-- x op y on whole numbers -/
def bInt (C : Int → Int → Prop) (g : Int → Int → D) : R2t := fun x y M Q => match x, y with
  | .int i, .int j => C i j ∧ Q (g i j) M
  | _, _ => False
def bInt0 (g : Int → Int → D) : R2t := fun x y M Q => match x, y with
  | .int i, .int j => Q (g i j) M
  | _, _ => False
theorem bInt_inv {C : Int → Int → Prop} {g : Int → Int → D} : ∀ x y M Q, bInt C g x y M Q → ∃ i j, x = .int i ∧ y = .int j ∧ C i j ∧ Q (g i j) M := by
  intro x y M Q h
  cases x <;> cases y <;> first | exact ⟨_, _, rfl, rfl, h⟩ | exact (show False from h).elim
theorem bInt0_inv {g : Int → Int → D} : ∀ x y M Q, bInt0 g x y M Q → ∃ i j, x = .int i ∧ y = .int j ∧ Q (g i j) M := by
  intro x y M Q h
  cases x <;> cases y <;> first | exact ⟨_, _, rfl, rfl, h⟩ | exact (show False from h).elim
section
variable {X : Cx}
abbrev bSub : R2t := bInt0 fun i j => .int (i - j)
theorem oq_addI : OpQ X (binaryOp .Add) (bInt0 fun i j => .int (i + j)) := OpRimp op_add (lr2_int0 (fun _ _ _ => .int _) bInt0_inv)
theorem oq_sub : OpQ X (binaryOp .Sub) bSub := OpRimp op_sub (lr2_int0 (fun _ _ _ => .int _) bInt0_inv)
theorem oq_mul : OpQ X (binaryOp .Mult) (bInt CMulW fun i j => .int (i * j)) := OpRimp op_mulW (lr2_int (fun _ _ _ => .int _) bInt_inv)
theorem oq_fdiv : OpQ X (binaryOp .FloorDiv) (bInt CDivW fun i j => .int (i / j)) := OpRimp op_fdivW (lr2_int (fun _ _ _ => .int _) bInt_inv)
theorem oq_mod : OpQ X (binaryOp .Mod) (bInt (fun _ j => 0 < j) fun i j => .int (i % j)) := OpRimp op_mod (lr2_int (fun _ _ _ => .int _) bInt_inv)
theorem oq_modN : OpQ X (binaryOp .Mod) (bInt (fun _ j => j ≠ 0) fun i j => .int (i.fmod j)) := OpRimp op_modN (lr2_int (fun _ _ _ => .int _) bInt_inv)
theorem oq_fdivN : OpQ X (binaryOp .FloorDiv) (bInt CDivN fun i j => .int (i.fdiv j)) := OpRimp op_fdivN (lr2_int (fun _ _ _ => .int _) bInt_inv)
theorem oq_pow : OpQ X (binaryOp .Pow) (bInt CPow fun i j => .int (i ^ j.toNat)) := OpRimp op_pow (lr2_int (fun _ _ _ => .int _) bInt_inv)
theorem oq_shl : OpQ X (binaryOp .LShift) (bInt CPow fun i j => .int (i * 2 ^ j.toNat)) := OpRimp op_shl (lr2_int (fun _ _ _ => .int _) bInt_inv)
theorem oq_shr : OpQ X (binaryOp .RShift) (bInt (fun _ j => 0 ≤ j) fun i j => .int (i / 2 ^ j.toNat)) := OpRimp op_shr (lr2_int (fun _ _ _ => .int _) bInt_inv)
theorem oq_band : OpQ X (binaryOp .BitAnd) (bInt0 fun i j => .int (Builtin.bitAnd i j)) := OpRimp op_and (lr2_int0 (fun _ _ _ => .int _) bInt0_inv)
theorem oq_bor : OpQ X (binaryOp .BitOr) (bInt0 fun i j => .int (Builtin.bitOr i j)) := OpRimp op_or (lr2_int0 (fun _ _ _ => .int _) bInt0_inv)
theorem oq_bxor : OpQ X (binaryOp .BitXor) (bInt0 fun i j => .int (Builtin.bitXor i j)) := OpRimp op_xor (lr2_int0 (fun _ _ _ => .int _) bInt0_inv)
theorem oq_iaddI : OpQ X (inplaceOp .Add) (bInt0 fun i j => .int (i + j)) := OpRimp iop_add (lr2_int0 (fun _ _ _ => .int _) bInt0_inv)
theorem oq_isub : OpQ X (inplaceOp .Sub) bSub := OpRimp iop_sub (lr2_int0 (fun _ _ _ => .int _) bInt0_inv)
theorem oq_lt : OpQ X (compareOp .Lt) (bInt0 fun i j => .bl (decide (i < j))) := OpRimp op_lt (lr2_int0 (fun _ _ _ => .bl _) bInt0_inv)
theorem oq_le : OpQ X (compareOp .LtE) (bInt0 fun i j => .bl (decide (i ≤ j))) := OpRimp op_le (lr2_int0 (fun _ _ _ => .bl _) bInt0_inv)
theorem oq_gt : OpQ X (compareOp .Gt) (bInt0 fun i j => .bl (decide (j < i))) := OpRimp op_gt (lr2_int0 (fun _ _ _ => .bl _) bInt0_inv)
theorem oq_ge : OpQ X (compareOp .GtE) (bInt0 fun i j => .bl (decide (j ≤ i))) := OpRimp op_ge (lr2_int0 (fun _ _ _ => .bl _) bInt0_inv)
def uNeg : R1t := fun x M Q => match x with
  | .int i => Q (.int (-i)) M
  | _ => False
theorem uq_neg : UnQ X (unaryOp .USub) uNeg := UnRimp un_neg (by
  rintro x H Q ⟨G, F, M, dx, Qt, R, px, h, k⟩
  cases dx <;> first | exact (show False from h).elim | exact ⟨_, px.int_inv, k _ F H M _ (Same.refl _) R (.int _) h⟩)
end
/-! ### == and != of scalars -/
def dScal : D → D → Option Bool
  | .non, .non => some true
  | .int i, .int j => some (decide (i = j))
  | .str x, .str y => some (decide (x = y))
  | .bl x, .bl y => some (decide (x = y))
  | .non, .int _ => some false
  | .int _, .non => some false
  | .non, .str _ => some false
  | .str _, .non => some false
  | .non, .bl _ => some false
  | .bl _, .non => some false
  | .int _, .str _ => some false
  | .str _, .int _ => some false
  | _, _ => none
def bEq : R2t := fun x y M Q => match dScal x y with
  | some b => Q (.bl b) M
  | none => False
def bNe : R2t := fun x y M Q => match dScal x y with
  | some b => Q (.bl (!b)) M
  | none => False
theorem dScal_of {K : PySem.W.Frag} {F : Hp} {v w : V} {x y : D} {b : Bool} (px : Rp K F v x) (py : Rp K F w y) (e : dScal x y = some b) : scal v w = true ∧ decide (v = w) = b := by
  cases x <;> cases y <;> first
    | (cases e; done)
    | (cases px; cases py; cases e; exact ⟨rfl, by first | rfl | (congr 1; simp)⟩)
section
variable {X : Cx}
theorem oq_eq : OpQ X (compareOp .Eq) bEq := OpRimp op_eq (by
  rintro x y H Q ⟨G, F, M, dx, dy, Qt, R, px, py, h, k⟩
  unfold bEq at h
  cases e : dScal dx dy with
  | none => simp only [e] at h
  | some b =>
    simp only [e] at h
    obtain ⟨h1, h2⟩ := dScal_of px py e
    exact ⟨h1, k _ F H M _ (Same.refl _) R (by rw [h2]; exact .bl b) h⟩)
theorem oq_ne : OpQ X (compareOp .NotEq) bNe := OpRimp op_ne (by
  rintro x y H Q ⟨G, F, M, dx, dy, Qt, R, px, py, h, k⟩
  unfold bNe at h
  cases e : dScal dx dy with
  | none => simp only [e] at h
  | some b =>
    simp only [e] at h
    obtain ⟨h1, h2⟩ := dScal_of px py e
    exact ⟨h1, k _ F H M _ (Same.refl _) R (by rw [h2]; exact .bl _) h⟩)
def isNonD : D → Bool
  | .non => true
  | _ => false
theorem isNonD_of {K : PySem.W.Frag} {F : Hp} {v : V} {x : D} (px : Rp K F v x) : decide (v = .non) = isNonD x := by
  cases px <;> rfl
def bIsN : R2t := fun x y M Q => match y with
  | .non => Q (.bl (isNonD x)) M
  | _ => False
def bNotN : R2t := fun x y M Q => match y with
  | .non => Q (.bl (!isNonD x)) M
  | _ => False
theorem oq_isN : OpQ X (compareOp .Is) bIsN := OpRimp op_isN (by
  rintro x y H Q ⟨G, F, M, dx, dy, Qt, R, px, py, h, k⟩
  cases py <;> first | exact (show False from h).elim | exact ⟨rfl, k _ F H M _ (Same.refl _) R (by rw [isNonD_of px]; exact .bl _) h⟩)
theorem oq_notN : OpQ X (compareOp .IsNot) bNotN := OpRimp op_notN (by
  rintro x y H Q ⟨G, F, M, dx, dy, Qt, R, px, py, h, k⟩
  cases py <;> first | exact (show False from h).elim | exact ⟨rfl, k _ F H M _ (Same.refl _) R (by rw [isNonD_of px]; exact .bl _) h⟩)
end
/-! ### texts, lists, tuples joined -/
def bCatS : R2t := fun x y M Q => match x, y with
  | .str a, .str b => a.length + b.length ≤ sizeLine ∧ Q (.str (a ++ b)) M
  | _, _ => False
/-- a new frozen list -/
def bCatL : R2t := fun x y M Q => match lstOf M x, lstOf M y with
  | some a, some b => a.length + b.length ≤ sizeLine ∧ Q (.lst (a ++ b)) M
  | _, _ => False
/-- a new changing list -/
def bCatM : R2t := fun x y M Q => match lstOf M x, lstOf M y with
  | some a, some b => a.length + b.length ≤ sizeLine ∧ ∀ p, M p = none → Q (.ref p) (mup M p (.lst (a ++ b)))
  | _, _ => False
section
variable {X : Cx}
/-- list + list, frozen ones too -/
def rCatR (K : PySem.W.Frag) : R2 := fun x y H Q => ∃ l b xs zs, x = .ref l ∧ y = .ref b ∧ SqL K H l xs ∧ SqL K H b zs ∧ xs.length + zs.length ≤ sizeLine ∧ ∀ p, H p = none → Q (.ref p) (upd H p (.lst (xs ++ zs)))
theorem op_catR : OpR X (binaryOp .Add) (rCatR X.K) := by
  intro pins s σ H x y v u Q I rx ry h
  obtain ⟨l, b, xs, zs, rfl, rfl, hH, hB, hz, q⟩ := h
  cases rx
  cases ry
  obtain ⟨its, r, ⟨⟨cls, dd, data, sl⟩, n, ho, hc, hdd, hd⟩, z⟩ := I.list hH
  obtain ⟨its2, r2, ⟨⟨cls2, dd2, data2, sl2⟩, n2, ho2, hc2, hdd2, hd2⟩, z2⟩ := I.list hB
  simp only at hc hd hc2 hd2
  subst hc hd hc2 hd2
  have e1 := r.length
  have e2 := r2.length
  refine PySem.concat_meets ⟨_, ho, rfl⟩ ⟨_, ho2, rfl⟩ PySem.noFill_list_add PySem.seq_list_add PySem.F.slot_list_add PySem.F.entry_list_add (PySem.F.args_list_add_2 _ _) (PyProof.Rows.list_addW l b its.toArray its2.toArray n n2 dd dd2 sl sl2 (by rw [List.size_toArray, List.size_toArray]; omega)) ⟨ho, ho2, ?_⟩
  have ea : its.toArray ++ its2.toArray = (its ++ its2).toArray := by simp
  rw [ea]
  exact ⟨.ref _, _, I.lnew (t' := s.toks) (r.append r2) (by rw [List.length_append]; omega), rfl, q _ I.fresh⟩
theorem oq_addS : OpQ X (binaryOp .Add) bCatS := OpRimp op_add_str (by
  rintro x y H Q ⟨G, F, M, dx, dy, Qt, R, px, py, h, k⟩
  cases px <;> first
    | exact (show False from h).elim
    | (cases py <;> first | exact (show False from h).elim | exact ⟨_, _, rfl, rfl, h.1, k _ F H M _ (Same.refl _) R (.str _) h.2⟩))
end
section
variable {K : PySem.W.Frag}
theorem lst_two {r : R2t} {G F H : Hp} {M : MH} {x y : V} {dx dy : D} (R : Rel K G F H M) (px : Rp K F x dx) (py : Rp K F y dy) {a b : List D} (e1 : lstOf M dx = some a) (e2 : lstOf M dy = some b) :
    ∃ l m xs zs, x = .ref l ∧ y = .ref m ∧ SqL K H l xs ∧ SqL K H m zs ∧ Rps K F xs a ∧ Rps K F zs b := by
  obtain ⟨l, xs, h1, h2, h3⟩ := lst_of R px e1
  obtain ⟨m, zs, h4, h5, h6⟩ := lst_of R py e2
  exact ⟨l, m, xs, zs, h1, h4, h2, h5, h3, h6⟩
end
section
variable {X : Cx}
theorem oq_catL : OpQ X (binaryOp .Add) bCatL := OpRimp op_catR (by
  rintro x y H Q ⟨G, F, M, dx, dy, Qt, R, px, py, h, k⟩
  unfold bCatL at h
  cases e1 : lstOf M dx with
  | none => simp only [e1] at h
  | some a =>
    cases e2 : lstOf M dy with
    | none => simp only [e1, e2] at h
    | some b =>
      simp only [e1, e2] at h
      obtain ⟨l, m, xs, zs, rfl, rfl, h2, h5, h3, h6⟩ := lst_two (r := bCatL) R px py e1 e2
      refine ⟨l, m, xs, zs, rfl, rfl, h2, h5, by rw [h3.length, h6.length]; exact h.1, fun p np => ?_⟩
      obtain ⟨s, r⟩ := R.newF (o := .lst (xs ++ zs)) np
      exact k _ _ _ M _ s r (.lst upd_same ((h3.append h6).mono s)) h.2)
theorem oq_catM : OpQ X (binaryOp .Add) bCatM := OpRimp op_catR (by
  rintro x y H Q ⟨G, F, M, dx, dy, Qt, R, px, py, h, k⟩
  unfold bCatM at h
  cases e1 : lstOf M dx with
  | none => simp only [e1] at h
  | some a =>
    cases e2 : lstOf M dy with
    | none => simp only [e1, e2] at h
    | some b =>
      simp only [e1, e2] at h
      obtain ⟨l, m, xs, zs, rfl, rfl, h2, h5, h3, h6⟩ := lst_two (r := bCatM) R px py e1 e2
      refine ⟨l, m, xs, zs, rfl, rfl, h2, h5, by rw [h3.length, h6.length]; exact h.1, fun p np => ?_⟩
      exact k _ _ _ _ _ (Same.refl _) (R.newM (u := .lst (xs ++ zs)) (o := .lst (a ++ b)) np (h3.append h6)) (.ref p) (h.2 p (R.free np).2))
end
/-! ### displays -/
/-- (a, b) -/
def tTu (t : TAt) : TEt := fun τ M Q => t τ M fun ds M1 => ds.length ≤ sizeLine ∧ Q (.tup ds) M1
/-- [a, b]: it stays as it is -/
def tLi (t : TAt) : TEt := fun τ M Q => t τ M fun ds M1 => ds.length ≤ sizeLine ∧ Q (.lst ds) M1
/-- [a, b]: it may change -/
def tLm (t : TAt) : TEt := fun τ M Q => t τ M fun ds M1 => ds.length ≤ sizeLine ∧ ∀ p, M1 p = none → Q (.ref p) (mup M1 p (.lst ds))
section
variable {X : Cx} {E : XK} {Et : XT} {es : List Expr} {t : TAt} {pos : Pos}
theorem q_tup {x1} (h : QA X E Et es t) : QE X E Et (.Tuple es x1 pos) (tTu t) := PEimp (pe_tup h) (by
  rintro σ H Q ⟨G, F, M, τ, Qt, a, h, k⟩
  refine ⟨G, F, M, τ, _, a, h, fun vs F1 H1 M1 ds s1 r1 p1 q1 => ⟨by rw [p1.length]; exact q1.1, fun p np => ?_⟩⟩
  obtain ⟨s, r⟩ := r1.newF (o := .tup vs) np
  exact k _ _ _ M1 _ (s1.trans s) r (.tup upd_same (p1.mono s)) q1.2)
theorem q_lst (h : QA X E Et es t) : QE X E Et (.List es pos) (tLi t) := PEimp (pe_lst h) (by
  rintro σ H Q ⟨G, F, M, τ, Qt, a, h, k⟩
  refine ⟨G, F, M, τ, _, a, h, fun vs F1 H1 M1 ds s1 r1 p1 q1 => ⟨by rw [p1.length]; exact q1.1, fun p np => ?_⟩⟩
  obtain ⟨s, r⟩ := r1.newF (o := .lst vs) np
  exact k _ _ _ M1 _ (s1.trans s) r (.lst upd_same (p1.mono s)) q1.2)
theorem q_lstM (h : QA X E Et es t) : QE X E Et (.List es pos) (tLm t) := PEimp (pe_lst h) (by
  rintro σ H Q ⟨G, F, M, τ, Qt, a, h, k⟩
  refine ⟨G, F, M, τ, _, a, h, fun vs F1 H1 M1 ds s1 r1 p1 q1 => ⟨by rw [p1.length]; exact q1.1, fun p np => ?_⟩⟩
  exact k _ _ _ _ _ s1 (r1.newM (u := .lst vs) (o := .lst ds) np p1) (.ref p) (q1.2 p (r1.free np).2))
end
/-! ### what is as it was, told otherwise -/
/-- at M the value d may as well be told as d' at M' -/
def ReR (K : PySem.W.Frag) (d : D) (M : MH) (d' : D) (M' : MH) : Prop := ∀ G F H v, Rel K G F H M → Rp K F v d → ∃ F', Same F F' ∧ Rel K G F' H M' ∧ Rp K F' v d'
def tRe (K : PySem.W.Frag) (t : TEt) : TEt := fun τ M Q => t τ M fun d M1 => ∃ d' M2, ReR K d M1 d' M2 ∧ Q d' M2
section
variable {K : PySem.W.Frag}
theorem ReR.refl {d : D} {M : MH} : ReR K d M d M := fun G F H v R p => ⟨F, Same.refl _, R, p⟩
theorem ReR.trans {d d1 d2 : D} {M M1 M2 : MH} (a : ReR K d M d1 M1) (b : ReR K d1 M1 d2 M2) : ReR K d M d2 M2 := fun G F H v R p => by
  obtain ⟨F1, s1, R1, p1⟩ := a G F H v R p
  obtain ⟨F2, s2, R2, p2⟩ := b G F1 H v R1 p1
  exact ⟨F2, s1.trans s2, R2, p2⟩
theorem ReR.drop {d : D} {M M' : MH} (h : ∀ a o, M' a = some o → M a = some o) : ReR K d M d M' := fun G F H v R p => ⟨F, Same.refl _, R.drop h, p⟩
theorem ReR.freeze {a : Addr} {ds : List D} {M : MH} (h : M a = some (.lst ds)) : ReR K (.ref a) M (.lst ds) (mdel M a) := fun G F H v R p => by
  obtain ⟨F', s, R', r⟩ := R.freeze h
  cases p
  exact ⟨F', s, R', r⟩
/-- the commonest: a list made here is handed back -/
theorem ReR.made {a : Addr} {ds : List D} {M : MH} (h : M a = none) : ReR K (.ref a) (mup M a (.lst ds)) (.lst ds) M := by
  have := ReR.freeze (K := K) (a := a) (ds := ds) (M := mup M a (.lst ds)) mup_same
  rw [mdel_mup h] at this
  exact this
/-- any other value, while a list is frozen -/
theorem ReR.other {d : D} {a : Addr} {ds : List D} {M : MH} (h : M a = some (.lst ds)) : ReR K d M d (mdel M a) := fun G F H v R p => by
  obtain ⟨F', s, R', r⟩ := R.freeze h
  exact ⟨F', s, R', p.mono s⟩
end
section
variable {X : Cx} {E : XK} {Et : XT} {e : Expr} {t : TEt}
theorem q_re (h : QE X E Et e t) : QE X E Et e (tRe X.K t) := PEimp h (by
  rintro σ H Q ⟨G, F, M, τ, Qt, a, h, k⟩
  refine ⟨G, F, M, τ, _, a, h, fun v F1 H1 M1 d s1 r1 p1 ⟨d', M2, re, q⟩ => ?_⟩
  obtain ⟨F', s, R', p'⟩ := re G F1 H1 v r1 p1
  exact k v F' H1 M2 d' (s1.trans s) R' p' q)
end
/-- the same of all slots -/
def ReS (K : PySem.W.Frag) (τ : Sg) (M : MH) (τ' : Sg) (M' : MH) : Prop := ∀ G F H σ, Rel K G F H M → Sgr K F σ τ → ∃ F', Same F F' ∧ Rel K G F' H M' ∧ Sgr K F' σ τ'
def sRe (K : PySem.W.Frag) (u : TSt) : TSt := fun D τ M => ∃ τ' M', ReS K τ M τ' M' ∧ u D τ' M'
section
variable {X : Cx} {E : XK} {Et : XT} {sts : List Stmt} {u : TSt}
theorem qss_re (h : QSs X E Et sts u) : QSs X E Et sts (sRe X.K u) := PSsimp h (by
  rintro D σ H ⟨G, F, M, τ, Dt, a, en, τ', M', re, h⟩
  obtain ⟨F', s, R', sg⟩ := re G F H σ a.rel a.sg
  exact ⟨G, F', M', τ', Dt, ⟨R', sg, a.el.mono s⟩, en.mono s, h⟩)
theorem nth_at : ∀ {t : Sg} {i : Nat} {d : D}, t[i]? = some (some d) → nth t i = some d
  | [], _, _, h => by simp at h
  | x :: _, 0, d, h => by
    have h : some x = some (some d) := h
    exact Option.some.inj h
  | _ :: t, n + 1, d, h => by
    rw [List.getElem?_cons_succ] at h
    exact nth_at (t := t) h
/-- slot i's list is frozen -/
theorem ReS.freeze {K : PySem.W.Frag} {τ : Sg} {M : MH} {i : Nat} {a : Addr} {ds : List D} (h : nth τ i = some (.ref a)) (hm : M a = some (.lst ds)) : ReS K τ M (τ.set i (some (.lst ds))) (mdel M a) := fun G F H σ R sg => by
  obtain ⟨F', s, R', r⟩ := R.freeze hm
  refine ⟨F', s, R', ?_⟩
  have g := sg.mono s
  obtain ⟨v, h1, h2⟩ := g.2 i _ (nth_get h)
  cases h2
  have e : σ = σ.set i (some (.ref a)) := by
    apply List.ext_getElem?
    intro j
    by_cases hij : i = j
    · subst hij
      rw [h1, List.getElem?_set_self (List.getElem?_eq_some_iff.mp h1).1]
    · rw [List.getElem?_set_ne hij]
  rw [e]
  exact g.set r
theorem ReS.drop {K : PySem.W.Frag} {τ : Sg} {M M' : MH} (h : ∀ a o, M' a = some o → M a = some o) : ReS K τ M τ M' := fun G F H σ R sg => ⟨F, Same.refl _, R.drop h, sg⟩
theorem ReS.refl {K : PySem.W.Frag} {τ : Sg} {M : MH} : ReS K τ M τ M := fun G F H σ R sg => ⟨F, Same.refl _, R, sg⟩
theorem ReS.trans {K : PySem.W.Frag} {τ τ1 τ2 : Sg} {M M1 M2 : MH} (a : ReS K τ M τ1 M1) (b : ReS K τ1 M1 τ2 M2) : ReS K τ M τ2 M2 := fun G F H v R p => by
  obtain ⟨F1, s1, R1, p1⟩ := a G F H v R p
  obtain ⟨F2, s2, R2, p2⟩ := b G F1 H v R1 p1
  exact ⟨F2, s1.trans s2, R2, p2⟩
end
/-! ### items -/
/-- x[i]: of a tuple, a list, a text -/
def bIx : R2t := fun x y M Q => match y with
  | .int i => match x with
    | .str z => z.length ≤ sizeLine ∧ match atI z.cps.toList i with
      | some c => Q (.str ⟨#[c]⟩) M
      | none => False
    | .tup ds => match atI ds i with
      | some d => Q d M
      | none => False
    | .tab ds => match atI ds i with
      | some d => Q d M
      | none => False
    | x => match lstOf M x with
      | some ds => match atI ds i with
        | some d => Q d M
        | none => False
      | none => False
  | _ => False
theorem Rps.at {K : PySem.W.Frag} {F : Hp} {vs : List V} {ds : List D} {i : Int} {d : D} (r : Rps K F vs ds) (h : atI ds i = some d) : ∃ v, atI vs i = some v ∧ Rp K F v d := by
  unfold atI at h ⊢
  rw [r.length]
  cases e : ixN ds.length i with
  | none => rw [e] at h; cases h
  | some j =>
    rw [e] at h
    exact r.getD (i := j) h
section
variable {X : Cx} {E : XK} {Et : XT} {a b : Expr} {ta tb : TEt} {pos : Pos}
theorem ixq : ∀ x y H Q, lr2 X.K bIx x y H Q → rIx X.K x y H Q := by
  rintro x y H Q ⟨G, F, M, dx, dy, Qt, R, px, py, h, k⟩
  cases py with
  | int i =>
    cases px with
    | str z =>
      obtain ⟨h1, h2⟩ := (show _ ∧ _ from h)
      cases e : atI z.cps.toList i with
      | none => rw [e] at h2; exact h2.elim
      | some c =>
        rw [e] at h2
        exact .inr (.inr ⟨z, i, c, rfl, rfl, h1, e, k _ F H M _ (Same.refl _) R (.str _) h2⟩)
    | @tup aa vs ds h0 r0 =>
      have h2 : (match atI ds i with | some d => Qt d M | none => False) := h
      cases e : atI ds i with
      | none => rw [e] at h2; exact h2.elim
      | some c =>
        rw [e] at h2
        obtain ⟨v, hv, rv⟩ := r0.at e
        exact .inr (.inl ⟨aa, vs, i, v, rfl, rfl, SqT.of (R.sub _ _ h0), hv, k _ F H M _ (Same.refl _) R rv h2⟩)
    | @tab aa vs ds h0 r0 =>
      have h2 : (match atI ds i with | some d => Qt d M | none => False) := h
      cases e : atI ds i with
      | none => rw [e] at h2; exact h2.elim
      | some c =>
        rw [e] at h2
        obtain ⟨v, hv, rv⟩ := r0.at e
        exact .inr (.inl ⟨aa, vs, i, v, rfl, rfl, SameT R.sub h0, hv, k _ F H M _ (Same.refl _) R rv h2⟩)
    | @lst aa vs ds h0 r0 =>
      have h2 : (match atI ds i with | some d => Qt d M | none => False) := h
      cases e : atI ds i with
      | none => rw [e] at h2; exact h2.elim
      | some c =>
        rw [e] at h2
        obtain ⟨v, hv, rv⟩ := r0.at e
        exact .inl ⟨aa, vs, i, v, rfl, rfl, SqL.of (R.sub _ _ h0), hv, k _ F H M _ (Same.refl _) R rv h2⟩
    | @scr aa vs ds h0 r0 =>
      have h2 : (match atI ds i with | some d => Qt d M | none => False) := h
      cases e : atI ds i with
      | none => rw [e] at h2; exact h2.elim
      | some c =>
        rw [e] at h2
        obtain ⟨v, hv, rv⟩ := r0.at e
        exact .inl ⟨aa, vs, i, v, rfl, rfl, R.sub.seq h0, hv, k _ F H M _ (Same.refl _) R rv h2⟩
    | ref aa =>
      have h2 : (match lstOf M (.ref aa) with | some ds => (match atI ds i with | some d => Qt d M | none => False) | none => False) := h
      cases q : lstOf M (.ref aa) with
      | none => rw [q] at h2; exact h2.elim
      | some ds =>
        rw [q] at h2
        obtain ⟨b, vs, eb, hs, r⟩ := lst_of R (.ref aa) q
        cases eb
        have h2 : (match atI ds i with | some d => Qt d M | none => False) := h2
        cases e : atI ds i with
        | none => rw [e] at h2; exact h2.elim
        | some c =>
          rw [e] at h2
          obtain ⟨v, hv, rv⟩ := r.at e
          exact .inl ⟨aa, vs, i, v, rfl, rfl, hs, hv, k _ F H M _ (Same.refl _) R rv h2⟩
    | _ => exact (show False from h).elim
  | _ => exact (show False from h).elim
theorem q_ix (ha : QE X E Et a ta) (hb : QE X E Et b tb) (hs : PlainIx b := by exact fun _ _ => rfl) : QE X E Et (.Subscript a b pos) (tO bIx ta tb) := PEimp (pe_ix ix_seq ha hb hs) (fun σ H Q h => by
  have := lv_op _ _ _ h
  obtain ⟨G, F, M, τ, Qt, a, h, k⟩ := this
  refine ⟨G, F, M, τ, Qt, a, h, fun v F' H' M' d s r p q => ?_⟩
  obtain ⟨G, F2, M2, τ2, Q2, a2, h2, k2⟩ := k v F' H' M' d s r p q
  exact ⟨G, F2, M2, τ2, Q2, a2, h2, fun v2 F3 H3 M3 d2 s2 r2 p2 q2 => ixq _ _ _ _ (k2 v2 F3 H3 M3 d2 s2 r2 p2 q2)⟩)
end
/-! ### slices -/
abbrev TOt := Sg → MH → (Option Int → MH → Prop) → Prop
def liftO (K : PySem.W.Frag) (E : XK) (Et : XT) (t : TOt) : TO := fun σ H Q => ∃ G F M τ Qt, At K E Et G F H M σ τ ∧ t τ M Qt ∧ ∀ b F' H' M', Same F F' → Rel K G F' H' M' → Qt b M' → Q b H'
abbrev QO (X : Cx) (E : XK) (Et : XT) (e : Option Expr) (t : TOt) : Prop := PO X e (liftO X.K E Et t)
def oNo : TOt := fun _ M Q => Q none M
def oYes (t : TEt) : TOt := fun τ M Q => t τ M fun d M1 => match d with
  | .int i => Q (some i) M1
  | _ => False
def cutD (xs : List D) (lo hi : Option Int) : List D := (xs.drop (HT.sIx xs.length 0 lo)).take (HT.sIx xs.length xs.length hi - HT.sIx xs.length 0 lo)
def tSc (r : D → Option Int → Option Int → MH → VD → Prop) (te : TEt) (tl th : TOt) : TEt := fun τ M Q => te τ M fun x M1 => tl τ M1 fun l M2 => th τ M2 fun u M3 => r x l u M3 Q
/-- of a list: a new frozen one -/
def cSlL : D → Option Int → Option Int → MH → VD → Prop := fun x lo hi M Q => match lstOf M x with
  | some ds => Q (.lst (cutD ds lo hi)) M
  | none => False
def cSlM : D → Option Int → Option Int → MH → VD → Prop := fun x lo hi M Q => match lstOf M x with
  | some ds => ∀ p, M p = none → Q (.ref p) (mup M p (.lst (cutD ds lo hi)))
  | none => False
def cSlS : D → Option Int → Option Int → MH → VD → Prop := fun x lo hi M Q => match x with
  | .str z => z.length ≤ sizeLine ∧ Q (.str (cutS z lo hi)) M
  | _ => False
theorem Rps.cut {K : PySem.W.Frag} {F : Hp} {vs : List V} {ds : List D} {lo hi : Option Int} (r : Rps K F vs ds) : Rps K F (cutV vs lo hi) (cutD ds lo hi) := by
  unfold cutV cutD
  rw [r.length]
  exact (r.drop _).take _
section
variable {X : Cx} {E : XK} {Et : XT} {e : Expr} {te : TEt} {lo hi : Option Expr} {tl th : TOt} {pos p2 : Pos}
theorem qo_none : QO X E Et none oNo := ⟨fun pins s σ H Q I h => po_none.run pins s σ H Q I (by
  obtain ⟨G, F, M, τ, Qt, a, h, k⟩ := h
  exact k none F H M (Same.refl _) a.rel h)⟩
theorem qo_some (h : QE X E Et e te) : QO X E Et (some e) (oYes te) := ⟨fun pins s σ H Q I w => (po_some h).run pins s σ H Q I (by
  obtain ⟨G, F, M, τ, Qt, a, w, k⟩ := w
  refine ⟨G, F, M, τ, _, a, w, fun v F1 H1 M1 d s1 r1 p1 q1 => ?_⟩
  cases p1 <;> first | exact (show False from q1).elim | exact ⟨_, rfl, k _ F1 H1 M1 s1 r1 q1⟩)⟩
def lSl (K : PySem.W.Frag) (r : D → Option Int → Option Int → MH → VD → Prop) : V → Option Int → Option Int → Hp → VK → Prop := fun x lo hi H Q => ∃ G F M dx Qt, Rel K G F H M ∧ Rp K F x dx ∧ r dx lo hi M Qt ∧ ∀ v F' H' M' d, Same F F' → Rel K G F' H' M' → Rp K F' v d → Qt d M' → Q v H'
theorem q_slice {r : D → Option Int → Option Int → MH → VD → Prop} {rr : V → Option Int → Option Int → Hp → VK → Prop} (hr : SlR X rr) (hi0 : ∀ x lo hi H Q, lSl X.K r x lo hi H Q → rr x lo hi H Q) (he : QE X E Et e te) (hl : QO X E Et lo tl) (hu : QO X E Et hi th) :
    QE X E Et (.Subscript e (.Slice lo hi none p2) pos) (tSc r te tl th) := PEimp (pe_slice hr he hl hu) (by
  rintro σ H Q ⟨G, F, M, τ, Qt, a, h, k⟩
  refine ⟨G, F, M, τ, _, a, h, fun v F1 H1 M1 d s1 r1 p1 q1 => ?_⟩
  refine ⟨G, F1, M1, τ, _, a.step s1 r1, q1, fun l F2 H2 M2 s2 r2 q2 => ?_⟩
  refine ⟨G, F2, M2, τ, _, a.step (s1.trans s2) r2, q2, fun u F3 H3 M3 s3 r3 q3 => hi0 _ _ _ _ _ ?_⟩
  exact ⟨G, F3, M3, d, Qt, r3, p1.mono (s2.trans s3), q3, fun v F' H' M' d s => k v F' H' M' d (((s1.trans s2).trans s3).trans s)⟩)
theorem q_sliceL (he : QE X E Et e te) (hl : QO X E Et lo tl) (hu : QO X E Et hi th) : QE X E Et (.Subscript e (.Slice lo hi none p2) pos) (tSc cSlL te tl th) := q_slice sl_list (by
  rintro x lo hi H Q ⟨G, F, M, dx, Qt, R, p, h, k⟩
  unfold cSlL at h
  cases q : lstOf M dx with
  | none => simp only [q] at h
  | some ds =>
    simp only [q] at h
    obtain ⟨b, vs, rfl, hs, r⟩ := lst_of R p q
    refine ⟨b, vs, rfl, hs, fun p np => ?_⟩
    obtain ⟨s, r1⟩ := R.newF (o := .lst (cutV vs lo hi)) np
    exact k _ _ _ M _ s r1 (.lst upd_same (r.cut.mono s)) h) he hl hu
theorem q_sliceM (he : QE X E Et e te) (hl : QO X E Et lo tl) (hu : QO X E Et hi th) : QE X E Et (.Subscript e (.Slice lo hi none p2) pos) (tSc cSlM te tl th) := q_slice sl_list (by
  rintro x lo hi H Q ⟨G, F, M, dx, Qt, R, p, h, k⟩
  unfold cSlM at h
  cases q : lstOf M dx with
  | none => simp only [q] at h
  | some ds =>
    simp only [q] at h
    obtain ⟨b, vs, rfl, hs, r⟩ := lst_of R p q
    refine ⟨b, vs, rfl, hs, fun p np => ?_⟩
    exact k _ _ _ _ _ (Same.refl _) (R.newM (u := .lst (cutV vs lo hi)) (o := .lst (cutD ds lo hi)) np r.cut) (.ref p) (h p (R.free np).2)) he hl hu
theorem q_sliceS (he : QE X E Et e te) (hl : QO X E Et lo tl) (hu : QO X E Et hi th) : QE X E Et (.Subscript e (.Slice lo hi none p2) pos) (tSc cSlS te tl th) := q_slice sl_str (by
  rintro x lo hi H Q ⟨G, F, M, dx, Qt, R, p, h, k⟩
  cases p <;> first | exact (show False from h).elim | exact ⟨_, rfl, h.1, k _ F H M _ (Same.refl _) R (.str _) h.2⟩) he hl hu
end
end Tl

namespace Tl
open PySem PySem.Spec PyProof.Rows L2

/-! ### a def of the text -/
def begin_ (N : List Str) (ds : List D) : Sg := ds.map some ++ List.replicate (N.length - ds.length) none
theorem sg_start {K : PySem.W.Frag} {F : Hp} {N : List Str} {vs : List V} {ds : List D} (r : Rps K F vs ds) : Sgr K F (L2.start N vs) (begin_ N ds) := by
  refine ⟨by unfold L2.start begin_; rw [List.length_append, List.length_append, List.length_map, List.length_map, List.length_replicate, List.length_replicate, r.length], fun i d e => ?_⟩
  unfold begin_ at e
  unfold L2.start
  by_cases hi : i < ds.length
  · rw [List.getElem?_append_left (by rw [List.length_map]; exact hi), List.getElem?_map] at e
    rw [List.getElem?_append_left (by rw [List.length_map, r.length]; exact hi), List.getElem?_map]
    cases q : ds[i]? with
    | none => rw [q] at e; cases e
    | some x =>
      rw [q] at e
      have ex : x = d := Option.some.inj (Option.some.inj e)
      subst ex
      obtain ⟨v, h1, h2⟩ := r.getD q
      exact ⟨v, by rw [h1]; rfl, h2⟩
  · rw [List.getElem?_append_right (by rw [List.length_map]; omega)] at e
    have := List.mem_of_getElem? e
    rw [List.mem_replicate] at this
    exact absurd this.2 (by simp)
section
variable {P : Program} {w : World} {K : PySem.W.Frag} {mg : Str → Option Value} {base : Heap} {x qual : Str} {params : Arguments} {body : List Stmt} {scope : Scope} {f : Addr} {fd : FuncData} {N ps : List Str} {k : Nat} {sp : SpT}
/-- a def that raises nothing -/
theorem fn_ok (F : He.DefD) (fd : FuncData) (hF : FunD K F.name F.qual F.params F.body F.scope [] [] f fd) (S : FnScope N ps F.scope) (len : ∀ ds M Q Et, sp ds M Q Et → ds.length = ps.length)
    (hb : ∀ (cdv : Value) (A : Around) (outer : List Env) (s : Shared) (H : Hp) (E : XK), Room k (A.deeper (envOfC F.qual F.scope s.heap.objs.size f cdv)) →
      ∃ t, QSs (cxOf CX0 P w K mg base N F.qual F.scope f cdv A outer s H E).nox E0 Et0 F.body t ∧ ∀ ds M Q Et, sp ds M Q Et → t { nx := fun _ M' => Q .non M', rt := Q } (begin_ N ds) M) : FnOk P w K mg base CX0 (k + 1) f fd ps (lSp K sp) := by
  refine hF.ok S (fun vs H Q E h => ?_) fun cdv A outer s H vs Q E hr h => ?_
  · obtain ⟨G, F, M, ds, Qt, Et, R, r, _, h, _⟩ := h
    rw [r.length]
    exact len _ _ _ _ h
  · obtain ⟨t, ht, hw⟩ := hb cdv A outer s H E hr
    obtain ⟨G, F, M, ds, Qt, Et, R, r, el, h, kk⟩ := h
    refine ⟨_, PSs.nox ht, G, F, M, begin_ N ds, { nx := fun _ M' => Qt .non M', rt := Qt }, ⟨R, sg_start r, .never⟩, ?_, hw ds M Qt Et h⟩
    exact ⟨fun F' H' M' σ τ s a q => kk .non F' H' M' .non s a.rel .non q, fun F' H' M' v d s R' p q => kk v F' H' M' d s R' p q, fun _ _ _ _ _ _ _ q => q.elim, fun _ _ _ _ _ _ _ q => q.elim⟩
end
/-! ### facts of the top -/
/-- what the head tells -/
structure Top (fa : List He.Fa) (fn : List He.DefD) (K : PySem.W.Frag) (mg : Str → Option Value) : Prop where
  says : He.SaysD fa fn K
  at_ : ∃ h : Heap, K.In h ∧ h.Ns mainGlobals mg
section
variable {fa : List He.Fa} {fn : List He.DefD} {K : PySem.W.Frag} {mg : Str → Option Value}
theorem Top.glo (T : Top fa fn K mg) (i : Nat) {x : Str} (h : fa[i]? = some (.glo x) := by rfl) : mg x = some (.ref (He.ga K x)) := by
  obtain ⟨_, X, G⟩ := T.at_
  exact He.glo_ok X G (T.says.fact i h)
theorem Top.free (T : Top fa fn K mg) (i : Nat) {x : Str} (h : fa[i]? = some (.free x) := by rfl) : mg x = none := by
  obtain ⟨_, X, G⟩ := T.at_
  exact He.free_ok X G (T.says.fact i h)
theorem Top.int (T : Top fa fn K mg) (i : Nat) {x : Str} {z : Int} (h : fa[i]? = some (.int x z) := by rfl) : ∃ t, mg x = some (.int z t) := by
  obtain ⟨_, X, G⟩ := T.at_
  exact He.int_ok X G (T.says.fact i h)
theorem Top.str (T : Top fa fn K mg) (i : Nat) {x : Str} {z : Str} (h : fa[i]? = some (.str x z) := by rfl) : ∃ t, mg x = some (.str z t) := by
  obtain ⟨_, X, G⟩ := T.at_
  exact He.str_ok X G (T.says.fact i h)
end
section
variable {P : Program} {w : World} {K : PySem.W.Frag} {mg : Str → Option Value} {base : Heap} {x : Str} {N ps : List Str} {k : Nat} {sp : SpT} {fa : List He.Fa} {fn : List He.DefD}
/-- THE RULE of a def at the top, called by its name -/
theorem fn_top (T : Top fa fn K mg) (i : Nat) (d : He.DefD) (m : mg x = some (.ref (He.ga K x))) (S : FnScope N ps d.scope) (len : ∀ ds M Q Et, sp ds M Q Et → ds.length = ps.length)
    (hb : ∀ (cdv : Value) (A : Around) (outer : List Env) (s : Shared) (H : Hp) (E : XK), Room k (A.deeper (envOfC d.qual d.scope s.heap.objs.size (He.ga K x) cdv)) →
      ∃ t, QSs (cxOf CX0 P w K mg base N d.qual d.scope (He.ga K x) cdv A outer s H E).nox E0 Et0 d.body t ∧ ∀ ds M Q Et, sp ds M Q Et → t { nx := fun _ M' => Q .non M', rt := Q } (begin_ N ds) M)
    (bd : ∀ (kV doc pm : Value) (an : Option Addr) (cdv ct : Value) (us : List Value), us.length = ps.length → bindArgs (PySem.W.fnOf d.name d.qual d.params d.body d.scope .none kV doc pm an cdv ct) ⟨us, []⟩ = pure (ps.zip us))
    (h : fn[i]? = some d := by rfl) (h0 : d.dfl = [] := by rfl) (h1 : d.kwd = [] := by rfl) (hx : He.fAd K d.at_ = He.ga K x := by rfl) : Fn P w K mg base CX0 (k + 1) x sp := by
  obtain ⟨fd, F⟩ := T.says.def_ i h
  have e0 : d.dvs K = [] := by unfold He.DefD.dvs; rw [h0]; rfl
  have e1 : d.kws K = [] := by unfold He.DefD.kws; rw [h1]; rfl
  rw [e0, e1, hx] at F
  exact ⟨⟨fd, ps, fn_ok d fd F S len hb, F.bindsN bd⟩, m, F.kp⟩
end
/-! ### kinds -/
def dTy (M : MH) : D → Option String
  | .non => some "NoneType"
  | .bl _ => some "bool"
  | .int _ => some "int"
  | .str _ => some "str"
  | .tup _ => some "tuple"
  | .tab _ => some "tuple"
  | .lst _ => some "list"
  | .ref a => match M a with
    | some (.lst _) => some "list"
    | some (.dK _) => some "dict"
    | some (.dT _) => some "dict"
    | _ => none
  | _ => none
def cIsi : RLt := fun ds M Q => match ds with
  | [x, .ty T] => match dTy M x with
    | some t => match kitB t T with
      | some b => Q (.bl b) M
      | none => False
    | none => False
  | _ => False
theorem tyX_of {K : PySem.W.Frag} {G F H : Hp} {M : MH} {v : V} {x : D} {t : String} (R : Rel K G F H M) (p : Rp K F v x) (e : dTy M x = some t) : TyX K H v (.type t) := by
  cases p with
  | non => cases e; exact .base .non
  | bl b => cases e; exact .base (.bl b)
  | int i => cases e; exact .base (.int i)
  | str z => cases e; exact .base (.str z)
  | tup h r => cases e; exact .base (.tup (R.sub _ _ h))
  | lst h r => cases e; exact .base (.lst (R.sub _ _ h))
  | tab h r =>
    cases e
    rcases SameT R.sub h with (h | ⟨o, h⟩) | ⟨o, its, n, h, hc, _⟩
    · exact .base (.tup h)
    · exact .fTuple h
    · exact .kTuple h hc
  | ref a =>
    unfold dTy at e
    cases q : M a with
    | none => simp only [q] at e; cases e
    | some o =>
      simp only [q] at e
      obtain ⟨_, u, hu, r⟩ := R.chg a o q
      cases o with
      | lst xs => cases e; cases u <;> first | exact .base (.lst hu) | exact (r : False).elim
      | dK xs => cases e; cases u <;> first | exact .base (.dK hu) | exact (r : False).elim
      | dT xs => cases e; cases u <;> first | exact .base (.dT hu) | exact (r : False).elim
      | ins => cases e
  | _ => cases e
section
variable {X : Cx}
theorem cq_isi : CallQ X (.builtin "isinstance") cIsi := CallRimp call_isi (by
  rintro xs H Q ⟨G, F, M, ds, Qt, R, r, h, k⟩
  match ds, r, h with
  | [x, .ty T], .cons h1 (.cons (.ty _) .nil), h =>
    have h : (match dTy M x with | some t => (match kitB t T with | some b => Qt (.bl b) M | none => False) | none => False) := h
    cases e : dTy M x with
    | none => rw [e] at h; exact h.elim
    | some t =>
      rw [e] at h
      have h : (match kitB t T with | some b => Qt (.bl b) M | none => False) := h
      cases e2 : kitB t T with
      | none => rw [e2] at h; exact h.elim
      | some b =>
        rw [e2] at h
        exact ⟨_, _, _, _, b, rfl, .ty T, tyX_of R h1 e, kit_ty e2, k _ F H M _ (Same.refl _) R (.bl b) h⟩)
/-- len -/
def lenOf (M : MH) : D → Option Nat
  | .str z => if z.length ≤ sizeLine then some z.length else none
  | .tup ds => some ds.length
  | .tab ds => some ds.length
  | .lst ds => some ds.length
  | .scr ds => some ds.length
  | .ref a => match M a with
    | some (.lst ds) => some ds.length
    | _ => none
  | _ => none
def cLen : RLt := fun ds M Q => match ds with
  | [x] => match lenOf M x with
    | some n => Q (.int (n : Int)) M
    | none => False
  | _ => False
theorem lenV_of {K : PySem.W.Frag} {G F H : Hp} {M : MH} {v : V} {x : D} {n : Nat} (R : Rel K G F H M) (p : Rp K F v x) (e : lenOf M x = some n) : LenV K v H n := by
  cases p with
  | str z =>
    unfold lenOf at e
    by_cases hz : z.length ≤ sizeLine
    · simp only [if_pos hz] at e; cases e; exact ⟨hz, rfl⟩
    · simp only [if_neg hz] at e; cases e
  | tup h r => cases e; exact .inr ⟨_, SqT.of (R.sub _ _ h), by rw [r.length]⟩
  | tab h r => cases e; exact .inr ⟨_, SameT R.sub h, by rw [r.length]⟩
  | lst h r => cases e; exact .inl ⟨_, SqL.of (R.sub _ _ h), by rw [r.length]⟩
  | scr h r => cases e; exact .inl ⟨_, R.sub.seq h, by rw [r.length]⟩
  | ref a =>
    unfold lenOf at e
    cases q : M a with
    | none => simp only [q] at e; cases e
    | some o =>
      simp only [q] at e
      obtain ⟨_, u, hu, r⟩ := R.chg a o q
      cases o with
      | lst xs =>
        cases e
        cases u with
        | lst vs => exact .inl ⟨vs, SqL.of hu, by rw [Rps.length (show Rps K F vs xs from r)]⟩
        | _ => exact (r : False).elim
      | _ => cases e
  | _ => cases e
theorem cq_len : CallQ X (.builtin "len") cLen := CallRimp call_len (by
  rintro xs H Q ⟨G, F, M, ds, Qt, R, r, h, k⟩
  match ds, r, h with
  | [x], .cons h1 .nil, h =>
    have h : (match lenOf M x with | some n => Qt (.int (n : Int)) M | none => False) := h
    cases e : lenOf M x with
    | none => rw [e] at h; exact h.elim
    | some n =>
      rw [e] at h
      exact ⟨_, n, rfl, lenV_of R h1 e, k _ F H M _ (Same.refl _) R (.int _) h⟩)
/-- int of an int, of a truth -/
def cInt : RLt := fun ds M Q => match ds with
  | [.int i] => Q (.int i) M
  | [.bl b] => Q (.int (if b then 1 else 0)) M
  | _ => False
theorem cq_int : CallQ X (.type "int") cInt := CallRimp call_int1 (by
  rintro xs H Q ⟨G, F, M, ds, Qt, R, r, h, k⟩
  match ds, r, h with
  | [.int i], .cons (.int _) .nil, h => exact .inl ⟨i, rfl, k _ F H M _ (Same.refl _) R (.int _) h⟩
  | [.bl b], .cons (.bl _) .nil, h => exact .inr ⟨b, rfl, k _ F H M _ (Same.refl _) R (.int _) h⟩)
end
/-! ### methods of lists -/
abbrev RMt := D → List D → MH → VD → Prop
def lMt (K : PySem.W.Frag) (r : RMt) : V → List V → Hp → VK → Prop := fun x xs H Q => ∃ G F M dx ds Qt, Rel K G F H M ∧ Rp K F x dx ∧ Rps K F xs ds ∧ r dx ds M Qt ∧ ∀ v F' H' M' d, Same F F' → Rel K G F' H' M' → Rp K F' v d → Qt d M' → Q v H'
def tMt (r : RMt) (to : TEt) (t : TAt) : TEt := fun τ M Q => to τ M fun x M1 => (lstOf M1 x).isSome = true ∧ t τ M1 fun xs M2 => r x xs M2 Q
def tMt0 (r : RMt) (to : TEt) : TEt := fun τ M Q => to τ M fun x M1 => (lstOf M1 x).isSome = true ∧ r x [] M1 Q
theorem ty_list {K : PySem.W.Frag} {G F H : Hp} {M : MH} {v : V} {x : D} (R : Rel K G F H M) (p : Rp K F v x) (e : (lstOf M x).isSome = true) : tyV K "list" v H := by
  obtain ⟨ds, e⟩ := Option.isSome_iff_exists.mp e
  obtain ⟨a, vs, rfl, h, _⟩ := lst_of R p e
  exact .inl ⟨rfl, vs, h⟩
def mAppend : RMt := fun x xs M Q => match x, xs with
  | .ref l, [y] => match M l with
    | some (.lst ds) => ds.length < sizeLine ∧ Q .non (mup M l (.lst (ds ++ [y])))
    | _ => False
  | _, _ => False
section
variable {X : Cx} {E : XK} {Et : XT} {o e : Expr} {es : List Expr} {to : TEt} {t : TAt} {apos cpos : Pos} {name : Str} {id : String} {r : RMt} {rr : V → List V → Hp → VK → Prop}
theorem lv_bm (hi : ∀ x xs H Q, lMt X.K r x xs H Q → rr x xs H Q) : ∀ σ H Q, liftE X.K E Et (tMt r to t) σ H Q → tBM X.K "list" rr (liftE X.K E Et to) (liftA X.K E Et t) σ H Q := by
  rintro σ H Q ⟨G, F, M, τ, Qt, a, h, k⟩
  refine ⟨G, F, M, τ, _, a, h, fun v F1 H1 M1 d s1 r1 p1 q1 => ⟨ty_list r1 p1 q1.1, ?_⟩⟩
  refine ⟨G, F1, M1, τ, _, a.step s1 r1, q1.2, fun vs F2 H2 M2 ds s2 r2 p2 q2 => hi _ _ _ _ ?_⟩
  exact ⟨G, F2, M2, d, ds, Qt, r2, p1.mono s2, p2, q2, fun v F' H' M' d s => k v F' H' M' d ((s1.trans s2).trans s)⟩
theorem lv_bm0 (hi : ∀ x xs H Q, lMt X.K r x xs H Q → rr x xs H Q) : ∀ σ H Q, liftE X.K E Et (tMt0 r to) σ H Q → tBM0 X.K "list" rr (liftE X.K E Et to) σ H Q := by
  rintro σ H Q ⟨G, F, M, τ, Qt, a, h, k⟩
  refine ⟨G, F, M, τ, _, a, h, fun v F1 H1 M1 d s1 r1 p1 q1 => ⟨ty_list r1 p1 q1.1, hi _ _ _ _ ?_⟩⟩
  exact ⟨G, F1, M1, d, [], Qt, r1, p1, .nil, q1.2, fun v F' H' M' d s => k v F' H' M' d (s1.trans s)⟩
theorem q_append (ho : QE X E Et o to) (ha : QA X E Et (e :: es) t)
    (hbase : attributeBase o "append" X.env (eval o X.env) = eval o X.env := by rfl)
    (hfew : ((backTo cpos (starEach (e :: es) X.env)).all (fun x => !x.1) && (backToKw cpos (keywordEach [] X.env)).all (fun x => x.1.isSome)
      && decide ((e :: es).length + ([] : List Keyword).length + (if ([] : List Keyword).isEmpty then 0 else 1) < 30)) = true := by rfl)
    (hline : (apos.endLine == cpos.line) = true := by rfl) (hs : starEach (e :: es) X.env = (false, eval e X.env) :: starEach es X.env := by rfl) (hplain : (backTo cpos (starEach es X.env)).any (·.1) = false := by rfl) :
    QE X E Et (.Call (.Attribute o "append" apos) (e :: es) [] cpos) (tMt mAppend to t) :=
  PEimp (pe_bm PySem.F.plainAttrs_list PySem.F.slot_list_append PySem.F.type_list_append mt_append ho ha hbase hfew hline hs hplain) (lv_bm (by
    rintro x xs H Q ⟨G, F, M, dx, ds, Qt, R, p, ps, h, k⟩
    match dx, ds, p, ps, h with
    | .ref l, [y], .ref _, .cons py .nil, h =>
      have h : (match M l with | some (.lst ds) => ds.length < sizeLine ∧ Qt .non (mup M l (.lst (ds ++ [y]))) | _ => False) := h
      cases q : M l with
      | none => simp only [q] at h
      | some mo =>
        cases mo with
        | lst ds =>
          simp only [q] at h
          obtain ⟨_, u, hu, r⟩ := R.chg l _ q
          cases u with
          | lst vs =>
            have r : Rps X.K F vs ds := r
            refine ⟨l, vs, _, rfl, rfl, hu, by rw [r.length]; exact h.1, ?_⟩
            exact k .non F _ _ .non (Same.refl _) (R.put (u := .lst (vs ++ [_])) (o := .lst (ds ++ [y])) q (r.append (.cons py .nil))) .non h.2
          | _ => exact (r : False).elim
        | _ => simp only [q] at h))
end
/-! ### comprehensions -/
def wip (τ : Sg) : List Nat → Sg
  | [] => τ
  | v :: vs => (wip τ vs).set v none
theorem sg_wipe {K : PySem.W.Frag} {F : Hp} {σ : L2.St} {τ : Sg} (h : Sgr K F σ τ) : ∀ vs : List Nat, Sgr K F (wipe σ vs) (wip τ vs)
  | [] => h
  | v :: vs => by
    have := (sg_wipe h vs).unset (i := v)
    unfold wip wipe
    exact this
def liftTs (K : PySem.W.Frag) (E : XK) (Et : XT) (t : TTt) : TT := liftT K E Et t
abbrev QTs (X : Cx) (E : XK) (Et : XT) (es : List Expr) (t : TTt) : Prop := PTs X es (liftT X.K E Et t)
def tYe : TTt := fun _ M Q => Q true M
theorem qts_nil {X : Cx} {E : XK} {Et : XT} : QTs X E Et [] tYe := ⟨fun pins s σ H Q I h => pts_nil.run pins s σ H Q I (by
  obtain ⟨G, F, M, τ, Qt, a, h, k⟩ := h
  exact k true F H M (Same.refl _) a.rel h)⟩
theorem qts_one {X : Cx} {E : XK} {Et : XT} {c : Expr} {t : TTt} (h : QT X E Et c t) : QTs X E Et [c] t := pts_one h
/-- [elt for target in iter if ..], frozen: W by the turn and what is made so far; block slots vs; own: σ2 wipes as σ -/
def tLcF (ti : TIt) (g : TGt) (tt : TTt) (te : TEt) (vs : List Nat) : TEt := fun τ M Q => ti τ M fun I M1 => I.items.length < sizeLine ∧ ∃ W : Nat → List D → MH → Prop, W 0 [] M1 ∧ (∀ i acc M, W i acc M → I.src M ∧ acc.length ≤ i) ∧
  (∀ i x acc M, I.items[i]? = some x → W i acc M → g x (wip τ vs) M fun τ2 M2 => tt τ2 M2 fun b M3 => if b = true then te τ2 M3 fun y M4 => W (i + 1) (acc ++ [y]) M4 else W (i + 1) acc M3) ∧ ∀ acc M, W I.items.length acc M → Q (.lst acc) M
/-- the same, a changing list -/
def tLcM (ti : TIt) (g : TGt) (tt : TTt) (te : TEt) (vs : List Nat) : TEt := tLcF ti g tt te vs
theorem wipe_get (σ : L2.St) : ∀ (vs : List Nat) (i : Nat), (wipe σ vs)[i]? = if i ∈ vs then (σ[i]?).map (fun _ => none) else σ[i]?
  | [], i => by rw [if_neg (by simp)]; rfl
  | v :: vs, i => by
    unfold wipe
    by_cases hv : v = i
    · subst hv
      rw [if_pos (List.mem_cons_self ..)]
      by_cases hl : v < σ.length
      · rw [List.getElem?_set_self (by rw [wipe_length]; exact hl), List.getElem?_eq_getElem hl]
        rfl
      · rw [List.getElem?_eq_none (by rw [List.length_set, wipe_length]; omega), List.getElem?_eq_none (by omega)]
        rfl
    · rw [List.getElem?_set_ne hv, wipe_get σ vs i]
      by_cases hm : i ∈ vs
      · rw [if_pos hm, if_pos (List.mem_cons_of_mem _ hm)]
      · rw [if_neg hm, if_neg (fun q => by
          rcases List.mem_cons.mp q with q | q
          · exact hv q.symm
          · exact hm q)]
theorem wipe_set {σ : L2.St} {vs : List Nat} {j : Nat} {x : Option V} (h : j ∈ vs) : wipe (σ.set j x) vs = wipe σ vs := by
  apply List.ext_getElem?
  intro i
  rw [wipe_get, wipe_get]
  by_cases hm : i ∈ vs
  · rw [if_pos hm, if_pos hm]
    by_cases hij : j = i
    · subst hij
      by_cases hl : j < σ.length
      · rw [List.getElem?_set_self hl, List.getElem?_eq_getElem hl]
        rfl
      · rw [List.getElem?_eq_none (by rw [List.length_set]; omega), List.getElem?_eq_none (by omega)]
    · rw [List.getElem?_set_ne hij]
  · rw [if_neg hm, if_neg hm, List.getElem?_set_ne (fun q => hm (by rw [← q]; exact h))]
theorem wipe_wipe (σ : L2.St) (vs : List Nat) : wipe (wipe σ vs) vs = wipe σ vs := by
  apply List.ext_getElem?
  intro i
  rw [wipe_get]
  by_cases hm : i ∈ vs
  · rw [if_pos hm, wipe_get, if_pos hm]
    cases σ[i]? <;> rfl
  · rw [if_neg hm]
/-- a target whose stores are the block's own -/
structure GOwn (K : PySem.W.Frag) (g : TG) (gt : TGt) (vs : List Nat) : Prop where
  lift : ∀ {G F H M σ τ v d Q Qt}, At K E0 Et0 G F H M σ τ → Rp K F v d → gt d τ M Qt →
    (∀ F' H' M' σ' τ', Same F F' → At K E0 Et0 G F' H' M' σ' τ' → wipe σ' vs = wipe σ vs → Qt τ' M' → Q σ' H') → g v σ H Q
structure GOwns (K : PySem.W.Frag) (g : TGs) (gt : TGst) (vs : List Nat) : Prop where
  lift : ∀ {G F H M σ τ v d Q Qt}, At K E0 Et0 G F H M σ τ → Rps K F v d → gt d τ M Qt →
    (∀ F' H' M' σ' τ', Same F F' → At K E0 Et0 G F' H' M' σ' τ' → wipe σ' vs = wipe σ vs → Qt τ' M' → Q σ' H') → g v σ H Q
section
variable {K : PySem.W.Frag} {vs : List Nat}
theorem go_name {j : Nat} (h : j ∈ vs := by decide) : GOwn K (gName j) (gN j) vs := ⟨fun {G F H M σ τ v d Q Qt} a p q k => k F H M _ _ (Same.refl _) (a.store p) (wipe_set h) q⟩
theorem gos_nil : GOwns K gNil gNl vs := ⟨fun {G F H M σ τ v d Q Qt} a p q k => by
  cases p with
  | nil => exact ⟨rfl, k F H M _ _ (Same.refl _) a rfl q⟩
  | cons _ _ => exact (show False from q).elim⟩
theorem gos_cons {g : TG} {gt : TGt} {gs : TGs} {gts : TGst} (h1 : GOwn K g gt vs) (h2 : GOwns K gs gts vs) : GOwns K (gCons g gs) (gCs gt gts) vs := ⟨fun {G F H M σ τ v d Q Qt} a p q k => by
  cases p with
  | nil => exact (show False from q).elim
  | cons p1 p2 => exact ⟨_, _, rfl, h1.lift a p1 q fun F1 H1 M1 σ1 τ1 s1 a1 e1 q1 => h2.lift a1 (p2.mono s1) q1 fun F' H' M' σ' τ' s a' e q' => k F' H' M' σ' τ' (s1.trans s) a' (e.trans e1) q'⟩⟩
theorem go_tup {n : Nat} {gs : TGs} {gts : TGst} (h : GOwns K gs gts vs) : GOwn K (gTup K n gs) (gTp n gts) vs := ⟨fun {G F H M σ τ v d Q Qt} a p q k => by
  cases p with
  | tup h0 r0 => exact ⟨_, _, rfl, SqT.of (a.rel.sub _ _ h0), by rw [r0.length]; exact q.1, h.lift a r0 q.2 k⟩
  | _ => exact (show False from q).elim⟩
end
section
variable {X : Cx} {E : XK} {Et : XT} {elt tg iter : Expr} {ifs : List Expr} {scope : Scope} {own : List (Str × Nat)} {pos : Pos} {ti : TIt} {g : TG} {gt : TGt} {tt : TTt} {te : TEt}
/-- what a comprehension's reading asks of the layer below; show_: what is told of the new list -/
theorem lv_lc {vs : List Nat} (go : GOwn X.K g gt vs) {R : List D → MH → V → Hp → Prop} {σ : L2.St} {H : Hp} {Q : VK} {G F : Hp} {M : MH} {τ : Sg} {Qt : VD} (a : At X.K E Et G F H M σ τ) (h : tLcF ti gt tt te vs τ M Qt)
    (k : ∀ (F' H' : Hp) (M' : MH) (p : Addr) (vacc : List V) (acc : List D), Same F F' → Rel X.K (upd G p (.lst vacc)) F' H' M' → G p = none → Rps X.K F' vacc acc → Qt (.lst acc) M' → Q (.ref p) H') :
    tLc (liftI X.K E Et ti) g (liftT X.K E0 Et0 tt) (liftE X.K E0 Et0 te) vs σ H Q := by
  refine ⟨G, F, M, τ, _, a, h, fun J I F1 H1 M1 s1 r1 ok q1 => ?_⟩
  obtain ⟨hz, W, w0, ws, turn, done⟩ := q1
  intro Dl hD
  have hG : G Dl = none := r1.freeG hD
  refine ⟨fun i m H => m = I.items.length - i ∧ i ≤ I.items.length ∧ ∃ F' M' vacc acc, Same F1 F' ∧ Rel X.K (upd G Dl (.lst vacc)) F' H M' ∧ Rps X.K F' vacc acc ∧ W i acc M', ⟨_, rfl, Nat.zero_le _, F1, M1, [], [], Same.refl _, r1.newG hD, .nil, w0⟩, ?_⟩
  rintro i m H2 ⟨rfl, hi, F2, M2, vacc, acc, s2, r2, p2, hw⟩
  obtain ⟨hsrc, hlen⟩ := ws i acc M2 hw
  by_cases hlt : i < I.items.length
  · have hx : I.items[i]? = some I.items[i] := List.getElem?_eq_getElem hlt
    refine .inr ⟨ok.go i _ F2 H2 M2 _ s2 r2 hsrc hx, fun H' => ∃ F' M' vacc acc, Same F1 F' ∧ Rel X.K (upd G Dl (.lst vacc)) F' H' M' ∧ Rps X.K F' vacc acc ∧ W (i + 1) acc M', fun H' z => ⟨I.items.length - (i + 1), by omega, rfl, hlt, z⟩, fun v H3 y => ?_⟩
    obtain ⟨F3, s3, r3, p3⟩ := ok.yld i _ F2 H2 M2 _ v H3 s2 r2 hsrc hx y
    have a3 : At X.K E0 Et0 (upd G Dl (.lst vacc)) F3 H3 M2 (wipe σ vs) (wip τ vs) := ⟨r3, sg_wipe (a.sg.mono ((s1.trans s2).trans s3)) vs, .never⟩
    refine go.lift a3 p3 (turn i _ acc M2 hx hw) fun F4 H4 M4 σ4 τ4 s4 a4 e4 q4 => ⟨e4.trans (wipe_wipe σ vs), ?_⟩
    refine ⟨_, F4, M4, τ4, _, a4, q4, fun b F5 H5 M5 s5 r5 q5 => ?_⟩
    cases b with
    | true =>
      rw [if_pos rfl] at q5 ⊢
      refine ⟨_, F5, M5, τ4, _, a4.step s5 r5, q5, fun y F6 H6 M6 d s6 r6 p6 q6 => ?_⟩
      refine ⟨vacc, (r6.hid Dl _ upd_same).1, by rw [p2.length]; omega, F6, M6, vacc ++ [y], acc ++ [d], ((((s2.trans s3).trans s4).trans s5).trans s6), r6.putG, (p2.mono (((s3.trans s4).trans s5).trans s6)).append (.cons p6 .nil), q6⟩
    | false =>
      rw [if_neg Bool.false_ne_true] at q5 ⊢
      exact ⟨F5, M5, vacc, acc, ((s2.trans s3).trans s4).trans s5, r5, p2.mono ((s3.trans s4).trans s5), q5⟩
  · have e : i = I.items.length := by omega
    subst e
    exact .inl ⟨ok.stop _ _ F2 H2 M2 s2 r2 hsrc (Nat.le_refl _), k F2 H2 M2 Dl vacc acc (s1.trans s2) r2 hG p2 (done acc M2 hw)⟩
theorem lv_lcF {vs : List Nat} (go : GOwn X.K g gt vs) : ∀ σ H Q, liftE X.K E Et (tLcF ti gt tt te vs) σ H Q → tLc (liftI X.K E Et ti) g (liftT X.K E0 Et0 tt) (liftE X.K E0 Et0 te) vs σ H Q := by
  rintro σ H Q ⟨G, F, M, τ, Qt, a, h, k⟩
  refine lv_lc (R := fun _ _ _ _ => True) go a h fun F' H' M' p vacc acc s r hg ps q => ?_
  obtain ⟨s2, r2⟩ := r.showF hg
  exact k _ _ H' M' _ (s.trans s2) r2 (.lst upd_same (ps.mono s2)) q
/-- a changing list -/
def tLcV (ti : TIt) (g : TGt) (tt : TTt) (te : TEt) (vs : List Nat) : TEt := fun τ M Q => tLcF ti g tt te vs τ M fun d M1 => match d with
  | .lst acc => ∀ p, M1 p = none → Q (.ref p) (mup M1 p (.lst acc))
  | _ => False
theorem lv_lcV {vs : List Nat} (go : GOwn X.K g gt vs) : ∀ σ H Q, liftE X.K E Et (tLcV ti gt tt te vs) σ H Q → tLc (liftI X.K E Et ti) g (liftT X.K E0 Et0 tt) (liftE X.K E0 Et0 te) vs σ H Q := by
  rintro σ H Q ⟨G, F, M, τ, Qt, a, h, k⟩
  refine lv_lc (R := fun _ _ _ _ => True) go a h fun F' H' M' p vacc acc s r hg ps q => ?_
  have hm : M' p = none := (r.hid p _ upd_same).2.2
  exact k _ F' H' _ _ s (r.showM (u := .lst vacc) (o := .lst acc) hg ps) (.ref p) (q p hm)
theorem q_lc (hc : X.calm = true) (hN : X.N.Nodup) (hi : QI X E Et tg iter ti) (ok : BlkOk X.N X.env.scope scope own) (go : GOwn X.K g gt (own.map (·.2)))
    (hg : ∀ (s : Shared) (H : Hp) (C : Addr) (cl : List (Str × Addr)) (fp : List Addr), PG (X.blk s H scope (compEnvC scope cl C X.env) fp) tg g) (ht : ∀ (s : Shared) (H : Hp) (C : Addr) (cl : List (Str × Addr)) (fp : List Addr), QTs (X.blk s H scope (compEnvC scope cl C X.env) fp) E0 Et0 ifs tt)
    (he : ∀ (s : Shared) (H : Hp) (C : Addr) (cl : List (Str × Addr)) (fp : List Addr), QE (X.blk s H scope (compEnvC scope cl C X.env) fp) E0 Et0 elt te) (hs : ∀ x, foldedSetIterable iter X.env x = pure x := by intro _; rfl) :
    QE X E Et (.ListComp elt [⟨tg, iter, ifs, 0⟩] scope pos) (tLcF ti gt tt te (own.map (·.2))) := PEimp (pe_lc hc hN hi ok hg ht he hs) (lv_lcF go)
theorem q_lcV (hc : X.calm = true) (hN : X.N.Nodup) (hi : QI X E Et tg iter ti) (ok : BlkOk X.N X.env.scope scope own) (go : GOwn X.K g gt (own.map (·.2)))
    (hg : ∀ (s : Shared) (H : Hp) (C : Addr) (cl : List (Str × Addr)) (fp : List Addr), PG (X.blk s H scope (compEnvC scope cl C X.env) fp) tg g) (ht : ∀ (s : Shared) (H : Hp) (C : Addr) (cl : List (Str × Addr)) (fp : List Addr), QTs (X.blk s H scope (compEnvC scope cl C X.env) fp) E0 Et0 ifs tt)
    (he : ∀ (s : Shared) (H : Hp) (C : Addr) (cl : List (Str × Addr)) (fp : List Addr), QE (X.blk s H scope (compEnvC scope cl C X.env) fp) E0 Et0 elt te) (hs : ∀ x, foldedSetIterable iter X.env x = pure x := by intro _; rfl) :
    QE X E Et (.ListComp elt [⟨tg, iter, ifs, 0⟩] scope pos) (tLcV ti gt tt te (own.map (·.2))) := PEimp (pe_lc hc hN hi ok hg ht he hs) (lv_lcV go)
/-- x = [..] -/
theorem qs_setLc {i : Nat} {y : Str} {py spos : Pos} {tl : TEt} (lv : ∀ σ H Q, liftE X.K E Et tl σ H Q → tLc (liftI X.K E Et ti) g (liftT X.K E0 Et0 tt) (liftE X.K E0 Et0 te) (own.map (·.2)) σ H Q) (hc : X.calm = true) (hN : X.N.Nodup) (hi : QI X E Et tg iter ti) (ok : BlkOk X.N X.env.scope scope own)
    (hg : ∀ (s : Shared) (H : Hp) (C : Addr) (cl : List (Str × Addr)) (fp : List Addr), PG (X.blk s H scope (compEnvC scope cl C X.env) fp) tg g) (ht : ∀ (s : Shared) (H : Hp) (C : Addr) (cl : List (Str × Addr)) (fp : List Addr), QTs (X.blk s H scope (compEnvC scope cl C X.env) fp) E0 Et0 ifs tt)
    (he : ∀ (s : Shared) (H : Hp) (C : Addr) (cl : List (Str × Addr)) (fp : List Addr), QE (X.blk s H scope (compEnvC scope cl C X.env) fp) E0 Et0 elt te)
    (hsw : swapsWith (.ListComp elt [⟨tg, iter, ifs, 0⟩] scope pos) (some (.Name y py)) spos.line X.env = pure true) (hy : X.N[i]? = some y := by rfl) (hyl : X.env.scope.names.lookup y = some .local := by rfl) (hs : ∀ x, foldedSetIterable iter X.env x = pure x := by intro _; rfl) :
    QS X E Et (.Assign [.Name y py] (.ListComp elt [⟨tg, iter, ifs, 0⟩] scope pos) spos) (sAs tl (gN i)) := PSimp (ps_setLc hc hN hy hyl hsw hi ok hg ht he hs) (by
  rintro D σ H ⟨G, F, M, τ, Dt, a, en, h⟩
  refine lv _ _ _ ⟨G, F, M, τ, _, a, h, fun v F1 H1 M1 d s1 r1 p1 q1 => ?_⟩
  exact en.nx F1 H1 M1 _ _ s1 ((a.step s1 r1).store p1) q1)
end
/-! ### the law's end -/
def spLaw : SpT := fun ds M Q _ => ∃ ns : List Int, ds = [.scr (ns.map D.int)] ∧ ns.length ≤ 63 ∧ ∀ M', Q (.bl true) M'
theorem rps_ints {K : PySem.W.Frag} {F : Hp} : ∀ ns : List Int, Rps K F (ns.map V.int) (ns.map D.int)
  | [] => .nil
  | n :: ns => .cons (.int n) (rps_ints ns)
theorem end_sp {K : PySem.W.Frag} {sp : SpT} {H : Hp} {a : Addr} {ns : List Int} (hS : SqL K H a (ns.map V.int)) (h : sp [.scr (ns.map D.int)] (fun _ => none) (fun d _ => d = .bl true) Et0) :
    lSp K sp [.ref a] H (fun v _ => v = .bl true) fun _ _ _ => False :=
  ⟨fun _ => none, H, fun _ => none, _, _, Et0, ⟨Same.refl _, fun _ _ e => (nomatch (show (none : Option MO) = some _ from e)), fun _ _ e => (nomatch (show (none : Option HO) = some _ from e))⟩, .cons (.scr hS (rps_ints ns)) .nil, .never, h, fun v F' H' M' d _ _ p q => by
    subst q
    exact p.bl_inv⟩
end Tl

namespace Tl
open PySem PySem.Spec PyProof.Rows L2
theorem kit_ii : kitB "int" "int" = some true := by decide +kernel
theorem kit_ib : kitB "int" "bool" = some false := by decide +kernel
theorem kit_bi : kitB "bool" "int" = some true := by decide +kernel
theorem kit_bb : kitB "bool" "bool" = some true := by decide +kernel
theorem kit_si : kitB "str" "int" = some false := by decide +kernel
theorem kit_ss : kitB "str" "str" = some true := by decide +kernel
theorem kit_is : kitB "int" "str" = some false := by decide +kernel
theorem kit_tt : kitB "tuple" "tuple" = some true := by decide +kernel
theorem kit_ll : kitB "list" "list" = some true := by decide +kernel
theorem kit_lt : kitB "list" "tuple" = some false := by decide +kernel
theorem kit_tl : kitB "tuple" "list" = some false := by decide +kernel
theorem kit_ts : kitB "tuple" "str" = some false := by decide +kernel
theorem kit_ls : kitB "list" "str" = some false := by decide +kernel
theorem kit_sl : kitB "str" "list" = some false := by decide +kernel
theorem kit_st : kitB "str" "tuple" = some false := by decide +kernel
theorem kit_it : kitB "int" "tuple" = some false := by decide +kernel
theorem kit_il : kitB "int" "list" = some false := by decide +kernel
theorem kit_dd : kitB "dict" "dict" = some true := by decide +kernel
theorem kit_ni : kitB "NoneType" "int" = some false := by decide +kernel
theorem kit_nb : kitB "NoneType" "bool" = some false := by decide +kernel
theorem nth_0 (x : Option D) (t : Sg) : nth (x :: t) 0 = x := rfl
theorem nth_s (x : Option D) (t : Sg) (n : Nat) : nth (x :: t) (n + 1) = nth t n := rfl
theorem set_0 (x y : Option D) (t : Sg) : (x :: t).set 0 y = y :: t := rfl
theorem set_s (x y : Option D) (t : Sg) (n : Nat) : (x :: t).set (n + 1) y = x :: t.set n y := rfl
end Tl

set_option maxHeartbeats 4000000
local macro_rules | `(tactic| walk_at "vc") => `(tactic| simp only [Tl.sNx, Tl.sSq, Tl.sBk, Tl.sCt, Tl.sDr, Tl.sRt, Tl.sRtN, Tl.sIf, Tl.sAs, Tl.sAg, Tl.gN, Tl.gNl, Tl.gCs, Tl.gTp, Tl.gSb, Tl.tV, Tl.tK, Tl.tO, Tl.tU, Tl.tCa, Tl.tN, Tl.tCs, Tl.tBo, Tl.tAn, Tl.tOr', Tl.tNo, Tl.tAnV, Tl.tOrV', Tl.tNoV, Tl.tIfE, Tl.tCh, Tl.tCl, Tl.tTu, Tl.tLi, Tl.tLm, Tl.tSc, Tl.oNo, Tl.oYes,
  Tl.bInt, Tl.bInt0, Tl.uNeg, Tl.bEq, Tl.bNe, Tl.dScal, Tl.bIsN, Tl.bNotN, Tl.isNonD, Tl.bCatS, Tl.bCatL, Tl.lstOf, Tl.tupOf, Tl.bIx, Tl.cSlL, Tl.cSlS, Tl.cIsi, Tl.dTy, Tl.cLen, Tl.lenOf, Tl.cInt, Tl.iLs, Tl.iTu, Tl.iR1, Tl.iR2, Tl.tMt, Tl.mAppend, Tl.tYe,
  Tl.kit_ii, Tl.kit_ib, Tl.kit_bi, Tl.kit_bb, Tl.begin_, Tl.nth, List.map, List.length, List.replicate, List.append, List.set, List.nil_append, List.cons_append, List.append_nil, Nat.reduceAdd, Nat.reduceSub, Nat.zero_add, reduceIte, Bool.false_eq_true, Bool.true_eq_false, Bool.not_eq_true', Bool.not_true, Bool.not_false, decide_eq_true_eq, decide_eq_false_iff_not, Option.isSome_some, true_and, and_true, Int.reduceLT, Int.reduceLE, List.cons.injEq, PySem.sizeLine_eq, Nat.reduceLeDiff, List.length_map, List.length_append, List.length_cons, List.length_nil])

namespace K01
open PySem PySem.Spec PyProof.Rows L2 Tl
def top (i : Nat) : Stmt := PySem.Challenge.pw_widelanes_k01_wrapped.main.body.getD i (.Pass ⟨0, 0, 0, 0⟩)
abbrev s_wrapped : Stmt := top 3
abbrev nm_wrapped : List Str := ["n"]
theorem sc_wrapped : FnScope nm_wrapped ["n"] (defScope s_wrapped) := ⟨rfl, rfl, rfl, by decide +kernel, rfl, by decide +kernel, by decide +kernel⟩
def e_wrapped : He.DefD := ⟨("wrapped", none), "wrapped", "wrapped", defArgs s_wrapped, defBody s_wrapped, defScope s_wrapped, [], []⟩
abbrev s_l_whole : Stmt := top 5
abbrev nm_l_whole : List Str := ["_law_found"]
theorem sc_l_whole : FnScope nm_l_whole ["_law_found"] (defScope s_l_whole) := ⟨rfl, rfl, rfl, by decide +kernel, rfl, by decide +kernel, by decide +kernel⟩
def e_l_whole : He.DefD := ⟨("_law_whole", none), "_law_whole", "_law_whole", defArgs s_l_whole, defBody s_l_whole, defScope s_l_whole, [], []⟩
abbrev s_l_signed : Stmt := top 6
abbrev nm_l_signed : List Str := ["_law_cell", "_law_top"]
theorem sc_l_signed : FnScope nm_l_signed ["_law_cell", "_law_top"] (defScope s_l_signed) := ⟨rfl, rfl, rfl, by decide +kernel, rfl, by decide +kernel, by decide +kernel⟩
def e_l_signed : He.DefD := ⟨("_law_signed", none), "_law_signed", "_law_signed", defArgs s_l_signed, defBody s_l_signed, defScope s_l_signed, [], []⟩
abbrev s_l_number : Stmt := top 7
abbrev nm_l_number : List Str := ["_law_cell"]
theorem sc_l_number : FnScope nm_l_number ["_law_cell"] (defScope s_l_number) := ⟨rfl, rfl, rfl, by decide +kernel, rfl, by decide +kernel, by decide +kernel⟩
def e_l_number : He.DefD := ⟨("_law_number", none), "_law_number", "_law_number", defArgs s_l_number, defBody s_l_number, defScope s_l_number, [], []⟩
abbrev s_l_fits : Stmt := top 8
abbrev nm_l_fits : List Str := ["_law_found", "_law_exact"]
theorem sc_l_fits : FnScope nm_l_fits ["_law_found", "_law_exact"] (defScope s_l_fits) := ⟨rfl, rfl, rfl, by decide +kernel, rfl, by decide +kernel, by decide +kernel⟩
def e_l_fits : He.DefD := ⟨("_law_fits", none), "_law_fits", "_law_fits", defArgs s_l_fits, defBody s_l_fits, defScope s_l_fits, [], []⟩
abbrev s_law : Stmt := top 9
abbrev nm_law : List Str := ["_law_script", "_law_cell", "_law_number_here"]
theorem sc_law : FnScope nm_law ["_law_script"] (defScope s_law) := ⟨rfl, rfl, rfl, by decide +kernel, rfl, by decide +kernel, by decide +kernel⟩
def e_law : He.DefD := ⟨("law", none), "law", "law", defArgs s_law, defBody s_law, defScope s_law, [], []⟩
def fn : List He.DefD := [e_wrapped, e_l_whole, e_l_signed, e_l_number, e_l_fits, e_law]
def fa : List He.Fa := [.glo "wrapped", .glo "_law_whole", .glo "_law_signed", .glo "_law_number", .glo "_law_fits", .glo "law", .int "HALF" 2147483648, .int "ROUND" 4294967296, .free "isinstance", .free "bool", .free "int"]
abbrev Tp (K : PySem.W.Frag) (mg : Str → Option Value) : Prop := Top fa fn K mg
section
variable {K : PySem.W.Frag} {mg : Str → Option Value}
theorem m_wrapped (T : Tp K mg) : mg "wrapped" = some (.ref (He.ga K "wrapped")) := T.glo 0
theorem m_l_whole (T : Tp K mg) : mg "_law_whole" = some (.ref (He.ga K "_law_whole")) := T.glo 1
theorem m_l_signed (T : Tp K mg) : mg "_law_signed" = some (.ref (He.ga K "_law_signed")) := T.glo 2
theorem m_l_number (T : Tp K mg) : mg "_law_number" = some (.ref (He.ga K "_law_number")) := T.glo 3
theorem m_l_fits (T : Tp K mg) : mg "_law_fits" = some (.ref (He.ga K "_law_fits")) := T.glo 4
theorem m_law (T : Tp K mg) : mg "law" = some (.ref (He.ga K "law")) := T.glo 5
theorem m_HALF (T : Tp K mg) : ∃ t, mg "HALF" = some (.int 2147483648 t) := T.int 6
theorem m_ROUND (T : Tp K mg) : ∃ t, mg "ROUND" = some (.int 4294967296 t) := T.int 7
theorem m_isinstance (T : Tp K mg) : mg "isinstance" = none := T.free 8
theorem m_bool (T : Tp K mg) : mg "bool" = none := T.free 9
theorem m_int (T : Tp K mg) : mg "int" = none := T.free 10
end
section
variable {P : Program} {w : World} {K : PySem.W.Frag} {mg : Str → Option Value} {base : Heap}
/-- a def of one whole number -/
def sp1 (f : Int → Int) : SpT := fun ds M Q _ => ∃ n, ds = [.int n] ∧ Q (.int (f n)) M
theorem len1 {f : Int → Int} : ∀ ds M Q Et, sp1 f ds M Q Et → ds.length = ["n"].length := by
  rintro _ M Q Et ⟨n, rfl, _⟩
  rfl
def fWrap (n : Int) : Int := (n + 2147483648) % 4294967296 - 2147483648
theorem ok_wrapped (T : Tp K mg) : Fn P w K mg base CX0 1 "wrapped" (sp1 fWrap) := by
  refine fn_top T 0 e_wrapped (m_wrapped T) sc_wrapped len1 (fun cdv A outer s H E hr => ⟨_, (qss_one (qs_ret (q_op oq_sub (q_op oq_mod (q_op oq_addI (qv 0) (q_gint (m_HALF T))) (q_gint (m_ROUND T))) (q_gint (m_HALF T))))), ?_⟩) (fun _ _ _ _ _ _ us hl => match us, hl with | [_], _ => rfl)
  rintro _ M Q Et ⟨n, rfl, h⟩
  walk_at "vc"
  exact h
/-- whole numbers, not truths -/
def spWhole : SpT := fun ds M Q _ => ∃ n, ds = [.int n] ∧ Q (.bl true) M
theorem ok_l_whole (T : Tp K mg) : Fn P w K mg base CX0 1 "_law_whole" spWhole := by
  refine fn_top T 1 e_l_whole (m_l_whole T) sc_l_whole (by rintro _ M Q Et ⟨n, rfl, _⟩; rfl) (fun cdv A outer s H E hr => ⟨_, (qss_one (qs_ret (q_and (q_callB cq_isi (m_isinstance T) (by decide +kernel) (qa_cons (qv 0) (qa_cons (q_ty "int" (m_int T) (by decide +kernel)) qa_nil))) (q_one (q_not (q_callB cq_isi (m_isinstance T) (by decide +kernel) (qa_cons (qv 0) (qa_cons (q_ty "bool" (m_bool T) (by decide +kernel)) qa_nil)))))))), ?_⟩) (fun _ _ _ _ _ _ us hl => match us, hl with | [_], _ => rfl)
  rintro _ M Q Et ⟨n, rfl, h⟩
  walk_at "vc"
  exact h
def fSigned (n t : Int) : Int := if n < 0 then -(-n % t) else n % t
def spSigned : SpT := fun ds M Q _ => ∃ n t, ds = [.int n, .int t] ∧ 0 < t ∧ Q (.int (fSigned n t)) M
theorem ok_l_signed (T : Tp K mg) : Fn P w K mg base CX0 1 "_law_signed" spSigned := by
  refine fn_top T 2 e_l_signed (m_l_signed T) sc_l_signed (by rintro _ M Q Et ⟨n, t, rfl, _⟩; rfl) (fun cdv A outer s H E hr => ⟨_, (qss_cons (qs_if (qt_cmp oq_lt (qv 0) q_int)
  (qss_one (qs_ret (q_un uq_neg (q_op oq_mod (q_un uq_neg (qv 0)) (qv 1)))))
  qss_nil)
 (qss_one (qs_ret (q_op oq_mod (qv 0) (qv 1))))), ?_⟩) (fun _ _ _ _ _ _ us hl => match us, hl with | [_, _], _ => rfl)
  rintro _ M Q Et ⟨n, t, rfl, ht, h⟩
  walk_at "vc"
  unfold fSigned at h
  split at h
  · rename_i c
    rw [if_pos c]
    exact ⟨ht, h⟩
  · rename_i c
    rw [if_neg c]
    exact ⟨ht, h⟩
theorem signed_lt {n t : Int} (h : 0 < t) : (fSigned n t).natAbs < t.natAbs := by
  unfold fSigned
  have h1 := Int.emod_nonneg n (show t ≠ 0 by omega)
  have h2 := Int.emod_lt_of_pos n h
  have h3 := Int.emod_nonneg (-n) (show t ≠ 0 by omega)
  have h4 := Int.emod_lt_of_pos (-n) h
  split <;> omega
theorem pow_bit (n : Nat) (h : n ≤ 400) : CPow 10 (n : Int) := ⟨by omega, by omega, by decide⟩
def spNumber : SpT := fun ds M Q _ => ∃ n, ds = [.int n] ∧ ∀ m, Q (.int m) M
theorem ok_l_number (T : Tp K mg) : Fn P w K mg base CX0 2 "_law_number" spNumber := by
  refine fn_top T 3 e_l_number (m_l_number T) sc_l_number (by rintro _ M Q Et ⟨n, rfl, _⟩; rfl) (fun cdv A outer s H E hr => ⟨_, (qss_cons (qs_if (qt_cmp oq_eq (q_op oq_mod (qv 0) q_int) q_int)
  (qss_one (qs_ret (q_op oq_sub (q_op oq_addI (q_op oq_addI (q_op oq_mul (q_call (ok_l_signed T) (hr.mono (by decide)) (qa_cons (q_op oq_fdiv (qv 0) q_int) (qa_cons (q_op oq_pow q_int q_int) qa_nil))) q_int) q_int) (q_op oq_mod (q_op oq_fdiv (qv 0) q_int) q_int)) q_int)))
  qss_nil)
 (qss_one (qs_ret (q_call (ok_l_signed T) (hr.mono (by decide)) (qa_cons (qv 0) (qa_cons (q_op oq_pow q_int q_int) qa_nil)))))), ?_⟩) (fun _ _ _ _ _ _ us hl => match us, hl with | [_], _ => rfl)
  rintro _ M Q Et ⟨n, rfl, h⟩
  walk_at "vc"
  split
  · refine ⟨wide_div (b := 30) (by decide) (by decide) (by decide) (by decide), pow_bit 50 (by decide), n / 9, 10 ^ (50 : Int).toNat, rfl, by decide, ?_⟩
    walk_at "vc"
    exact ⟨wide_mul (a := 200) (b := 40) (Nat.lt_trans (signed_lt (by decide)) (by decide)) (by decide) (by decide) (by decide) (by decide), wide_div (b := 30) (by decide) (by decide) (by decide) (by decide), h _⟩
  · exact ⟨pow_bit 60 (by decide), n, _, rfl, by decide, h _⟩
def spFits : SpT := fun ds M Q _ => ∃ n z, ds = [.int n, .int z] ∧ Q (.bl (decide (-2147483648 ≤ n ∧ n ≤ 2147483647 ∧ (n - z) % 4294967296 = 0))) M
theorem ok_l_fits (T : Tp K mg) : Fn P w K mg base CX0 2 "_law_fits" spFits := by
  refine fn_top T 4 e_l_fits (m_l_fits T) sc_l_fits (by rintro _ M Q Et ⟨n, z, rfl, _⟩; rfl) (fun cdv A outer s H E hr => ⟨_, (qss_cons (qs_if (qt_not (qt_val (q_call (ok_l_whole T) (hr.mono (by decide)) (qa_cons (qv 0) qa_nil))))
  (qss_one (qs_ret q_bl))
  qss_nil)
 (qss_one (qs_ret (q_and (q_chain oq_le oq_le (q_un uq_neg q_int) (qv 0) q_int) (q_one (q_cmp oq_eq (q_op oq_mod (q_op oq_sub (qv 0) (qv 1)) q_int) q_int)))))), ?_⟩) (fun _ _ _ _ _ _ us hl => match us, hl with | [_, _], _ => rfl)
  rintro _ M Q Et ⟨n, z, rfl, h⟩
  walk_at "vc"
  refine ⟨n, rfl, ?_⟩
  walk_at "vc"
  by_cases h1 : -2147483648 ≤ n <;> by_cases h2 : n ≤ 2147483647 <;> simp only [h1, h2, true_and, false_and, if_true, if_false, decide_false] at h ⊢ <;> exact h
theorem fits_wrap (n : Int) : -2147483648 ≤ fWrap n ∧ fWrap n ≤ 2147483647 ∧ (fWrap n - n) % 4294967296 = 0 := by
  unfold fWrap
  omega
theorem ok_law (T : Tp K mg) {f : Addr} {fd : FuncData} (F : FunD K e_law.name e_law.qual e_law.params e_law.body e_law.scope [] [] f fd) : FnOk P w K mg base CX0 3 f fd ["_law_script"] (lSp K spLaw) := by
  refine fn_ok e_law fd F sc_law (by rintro _ M Q Et ⟨n, rfl, _⟩; rfl) (fun cdv A outer s H E hr => ⟨_, (qss_cons (qs_for PassesOwn.never rfl (qi_list (q_op oq_catL (q_lst (qa_cons q_int qa_nil)) (qv 0))) (qg_name (i := 1) sc_law.nd)
  (qss_cons (qs_set (i := 2) sc_law.nd (q_call (ok_l_number T) (hr.mono (by decide)) (qa_cons (qv 1) qa_nil)))
 (qss_one (qs_if (qt_not (qt_val (q_call (ok_l_fits T) (hr.mono (by decide)) (qa_cons (q_call (ok_wrapped T) (hr.mono (by decide)) (qa_cons (qv 2) qa_nil)) (qa_cons (qv 2) qa_nil)))))
  (qss_one (qs_ret q_bl))
  qss_nil))))
 (qss_one (qs_ret q_bl))), ?_⟩)
  rintro _ M Q Et ⟨ns, rfl, hl, h⟩
  walk_at "vc"
  simp only [sFo]
  walk_at "vc"
  refine ⟨by omega, fun i τ M => ∃ v2 v3, τ = [some (.scr (ns.map D.int)), v2, v3], ⟨none, none, rfl⟩, fun _ _ _ _ => trivial, ?_, ?_⟩
  · rintro i x τ M hx ⟨v2, v3, rfl⟩
    obtain ⟨n, rfl⟩ : ∃ n, x = .int n := by
      have := List.mem_of_getElem? hx
      simp only [List.mem_cons, List.mem_map] at this
      rcases this with e | ⟨n, _, e⟩
      · exact ⟨0, e⟩
      · exact ⟨n, e.symm⟩
    walk_at "vc"
    refine ⟨n, rfl, fun m => ?_⟩
    walk_at "vc"
    refine ⟨m, rfl, fWrap m, m, rfl, ?_⟩
    walk_at "vc"
    rw [if_neg (by simpa using fits_wrap m)]
    exact ⟨_, _, rfl, rfl⟩
  · rintro τ M _
    exact h M
end
theorem facts {P : Program} {w : World} {K : PySem.W.Frag} {h : Heap} {mg : Str → Option Value} {f : Addr} (X : K.In h) (G : h.Ns mainGlobals mg) (hfa : mg ("law" : Str) = some (.ref f)) (c : He.SaysD fa fn K) :
    ∃ fd : FuncData, (∀ (s : Shared) (v : Value), BindsTo s fd ⟨[v], []⟩ [("_law_script", v)]) ∧ ∀ base : Heap, K.In base → base.Ns mainGlobals mg → FnOk P w K mg base CX0 3 f fd ["_law_script"] (lSp K spLaw) := by
  have T : Tp K mg := ⟨c, h, X, G⟩
  obtain ⟨fd, F⟩ := c.def_ 5 (d := e_law) rfl
  have e := hfa.symm.trans (m_law T)
  cases e
  have b := FunD.bindsA (ps := ["_law_script"]) F fun _ _ _ _ _ _ us hl => match us, hl with | [_], _ => rfl
  exact ⟨fd, fun s v => b s [v] rfl, fun base _ _ => ok_law T F⟩
abbrev R : PySem.W.OpenRow := PySem.W.OpenLaw.row PySem.Challenge.rw_widelanes_k01_wrapped
abbrev hk : PySem.W.Hook := He.hookD 4 fa fn
def ob (s : PySem.W.SharedT) : He.AlD := He.obsDG 4 fa fn (HandSHeadRun.getT s)
theorem ob_eq (s : PySem.W.SharedT) : ob s = hk.obs s.abs := He.obsDG_eq (HandSHeadRun.getT_eq s)
theorem run (w : World) : HandSHeadRun.RunEq R (PySem.W.view R.prog [9]) hk ob 2000 ["__name__", "HALF", "ROUND", "wrapped", "_law_whole", "_law_signed", "_law_number", "_law_fits"] w := by
  intro os
  kernel_rfl
end K01
open PySem PySem.W PySem.Calls PyProof.Rows
theorem PySem.Challenge.cw_widelanes_k01_wrapped_holds : PySem.Challenge.rw_widelanes_k01_wrapped.Holds := by
  w_on; o_law
  refine HandSHeadRun.head_any (r := OpenLaw.row PySem.Challenge.rw_widelanes_k01_wrapped) (q := view (OpenLaw.row PySem.Challenge.rw_widelanes_k01_wrapped).prog [9]) (H := K01.hk) (ob := K01.ob) (M := 2000) (loose := ["__name__", "HALF", "ROUND", "wrapped", "_law_whole", "_law_signed", "_law_number", "_law_fits"]) (d := HandSHeadRun.topDef (OpenLaw.row PySem.Challenge.rw_widelanes_k01_wrapped).prog 9) (kwd := []) K01.ob_eq
    (by kernel_rfl) (fun s => by kernel_rfl) K01.run (by kernel_rfl) (by kernel_rfl) (by kernel_rfl) (by rfl) (by first | assumption | decide +kernel) (by decide +kernel) ⟨rfl, rfl, rfl, rfl, rfl, by decide +kernel⟩ ?hw ?hc
  case hw => w_witness2
  case hc =>
    refine L2.walk_ofE (l := PySem.Challenge.rw_widelanes_k01_wrapped) (n := 63) (k := 3) (x := "_law_script") (CX := L2.CX0) rfl (by decide) (by kernel_rfl) ⟨rfl, by decide, by decide⟩ ?F (fun _ _ _ _ z => z)
    intro w mg fa h Y G hmg0
    obtain ⟨K, KX, c⟩ := Y
    have hmg : mg ("law" : PySem.Str) = some (.ref fa) := by
      have e : (HandSHeadRun.topDef (OpenLaw.row PySem.Challenge.rw_widelanes_k01_wrapped).prog 9).name = ("law" : PySem.Str) := by kernel_rfl
      rw [← e]
      exact hmg0
    obtain ⟨fd, hb, hF⟩ := K01.facts (P := (PySem.Challenge.rw_widelanes_k01_wrapped).prog) (w := w) KX G hmg c
    exact ⟨K, fd, Tl.lSp K Tl.spLaw, KX, hb, fun H a ns hl _ hS => Tl.end_sp hS ⟨ns, rfl, hl, fun _ => rfl⟩, hF⟩
#print axioms PySem.Challenge.cw_widelanes_k01_wrapped_holds
