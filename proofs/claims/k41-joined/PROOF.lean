import PyProof.Rows.All
import Wide.All
import OpenK.AllK
import Wide.FinOn
import HandS.ForMost
import HandS.ForExc
import HandS.Wide
import HandS.IsInst
import HandS.HeadHook2
import HandS.Head2
import HandS.HeadEnd
import PyProof.Rows.SeqMore
import HandS.SortInts
import PyProof.Rows.RuleDivmod
import PySem.Challenge.RW_widelanes_k41_joined
set_option Elab.async false
set_option linter.all false
set_option maxRecDepth 100000
namespace Tl
open PySem PySem.Spec PyProof.Rows L2

/-! ### data as trees -/
inductive D where
  | non | bl (b : Bool) | int (i : Int) | str (s : Str) | tup (l : List D) | lst (l : List D) | tab (l : List D) | scr (l : List D) | ref (a : Addr) | ty (n : String)
/-- what may still change -/
inductive MO where
  | lst (l : List D) | dK (kvs : List (Key × D)) | dT (kvs : List (List Key × D)) | obj (C dx : Addr) (fl : List Str) (ds : List D)
abbrev MH := Addr → Option MO
def mup (M : MH) (a : Addr) (o : MO) : MH := fun b => if b = a then some o else M b
def mdel (M : MH) (a : Addr) : MH := fun b => if b = a then none else M b
theorem mup_same {M : MH} {a : Addr} {o : MO} : mup M a o a = some o := by unfold mup; rw [if_pos rfl]
theorem mup_ne {M : MH} {a b : Addr} {o : MO} (h : b ≠ a) : mup M a o b = M b := by unfold mup; rw [if_neg h]
theorem mup_mup {M : MH} {a : Addr} {o u : MO} : mup (mup M a o) a u = mup M a u := by
  funext b; unfold mup; split <;> rfl
theorem mdel_mup {M : MH} {a : Addr} {o : MO} (h : M a = none) : mdel (mup M a o) a = M := by
  funext b; unfold mdel mup
  by_cases e : b = a
  · rw [if_pos e, e, h]
  · rw [if_neg e, if_neg e]

section
variable (K : PySem.W.Frag)
mutual
inductive Rp (F : Hp) : V → D → Prop
  | non : Rp F .non .non
  | bl (b : Bool) : Rp F (.bl b) (.bl b)
  | int (i : Int) : Rp F (.int i) (.int i)
  | str (s : Str) : Rp F (.str s) (.str s)
  | ty (n : String) : Rp F (.ty n) (.ty n)
  | ref (a : Addr) : Rp F (.ref a) (.ref a)
  | tup {a : Addr} {vs : List V} {ds : List D} (h : F a = some (.tup vs)) (r : Rps F vs ds) : Rp F (.ref a) (.tup ds)
  | tab {a : Addr} {vs : List V} {ds : List D} (h : SqT K F a vs) (r : Rps F vs ds) : Rp F (.ref a) (.tab ds)
  | lst {a : Addr} {vs : List V} {ds : List D} (h : F a = some (.lst vs)) (r : Rps F vs ds) : Rp F (.ref a) (.lst ds)
  | scr {a : Addr} {vs : List V} {ds : List D} (h : SqL K F a vs) (r : Rps F vs ds) : Rp F (.ref a) (.scr ds)
inductive Rps (F : Hp) : List V → List D → Prop
  | nil : Rps F [] []
  | cons {v : V} {d : D} {vs : List V} {ds : List D} (h : Rp F v d) (t : Rps F vs ds) : Rps F (v :: vs) (d :: ds)
end
end
section
variable {K : PySem.W.Frag}
theorem SameT {H H' : Hp} {a : Addr} {xs : List V} (e : Same H H') (h : SqT K H a xs) : SqT K H' a xs := by
  rcases h with (h | ⟨o, h⟩) | h
  · exact .inl (.inl (e _ _ h))
  · exact .inl (.inr ⟨o, e _ _ h⟩)
  · exact .inr h
theorem SameR {H H' : Hp} {a : Addr} {u : HO} (e : Same H H') (h : Rd H a u) : Rd H' a u := by
  rcases h with h | ⟨o, h⟩
  · exact .inl (e _ _ h)
  · exact .inr ⟨o, e _ _ h⟩
mutual
theorem Rp.mono {F F' : Hp} (s : Same F F') : ∀ {v : V} {d : D}, Rp K F v d → Rp K F' v d
  | _, _, .non => .non
  | _, _, .bl b => .bl b
  | _, _, .int i => .int i
  | _, _, .str x => .str x
  | _, _, .ty n => .ty n
  | _, _, .ref a => .ref a
  | _, _, .tup h r => .tup (s _ _ h) (Rps.mono s r)
  | _, _, .tab h r => .tab (SameT s h) (Rps.mono s r)
  | _, _, .lst h r => .lst (s _ _ h) (Rps.mono s r)
  | _, _, .scr h r => .scr (s.seq h) (Rps.mono s r)
theorem Rps.mono {F F' : Hp} (s : Same F F') : ∀ {vs : List V} {ds : List D}, Rps K F vs ds → Rps K F' vs ds
  | _, _, .nil => .nil
  | _, _, .cons h t => .cons (Rp.mono s h) (Rps.mono s t)
end
theorem Rps.length {F : Hp} : ∀ {vs : List V} {ds : List D}, Rps K F vs ds → vs.length = ds.length
  | _, _, .nil => rfl
  | _, _, .cons _ t => by rw [List.length_cons, List.length_cons, Rps.length t]
theorem Rps.get {F : Hp} : ∀ {vs : List V} {ds : List D} {i : Nat} {v : V}, Rps K F vs ds → vs[i]? = some v → ∃ d, ds[i]? = some d ∧ Rp K F v d
  | _, _, _, _, .nil, e => by simp at e
  | _, _, 0, _, .cons h _, e => by simp at e; subst e; exact ⟨_, rfl, h⟩
  | _, _, i + 1, v, .cons _ t, e => by
    obtain ⟨d, h1, h2⟩ := Rps.get (i := i) (v := v) t (by simpa using e)
    exact ⟨d, by simpa using h1, h2⟩
theorem Rps.getD {F : Hp} : ∀ {vs : List V} {ds : List D} {i : Nat} {d : D}, Rps K F vs ds → ds[i]? = some d → ∃ v, vs[i]? = some v ∧ Rp K F v d
  | _, _, _, _, .nil, e => by simp at e
  | _, _, 0, _, .cons h _, e => by simp at e; subst e; exact ⟨_, rfl, h⟩
  | _, _, i + 1, v, .cons _ t, e => by
    obtain ⟨d, h1, h2⟩ := Rps.getD (i := i) (d := v) t (by simpa using e)
    exact ⟨d, by simpa using h1, h2⟩
theorem Rps.append {F : Hp} : ∀ {vs ws : List V} {ds es : List D}, Rps K F vs ds → Rps K F ws es → Rps K F (vs ++ ws) (ds ++ es)
  | _, _, _, _, .nil, s => s
  | _, _, _, _, .cons h t, s => .cons h (Rps.append t s)
theorem Rps.take {F : Hp} : ∀ {vs : List V} {ds : List D} (n : Nat), Rps K F vs ds → Rps K F (vs.take n) (ds.take n)
  | _, _, 0, _ => .nil
  | _, _, _ + 1, .nil => .nil
  | _, _, n + 1, .cons r t => .cons r (Rps.take n t)
theorem Rps.drop {F : Hp} : ∀ {vs : List V} {ds : List D} (n : Nat), Rps K F vs ds → Rps K F (vs.drop n) (ds.drop n)
  | _, _, 0, r => r
  | _, _, _ + 1, .nil => .nil
  | _, _, n + 1, .cons _ t => Rps.drop n t
theorem Rps.set {F : Hp} {v : V} {d : D} (r : Rp K F v d) : ∀ {vs : List V} {ds : List D} (n : Nat), Rps K F vs ds → Rps K F (vs.set n v) (ds.set n d)
  | _, _, _, .nil => .nil
  | _, _, 0, .cons _ t => .cons r t
  | _, _, n + 1, .cons q t => .cons q (Rps.set r n t)
theorem Rps.dropLast {F : Hp} {vs : List V} {ds : List D} (h : Rps K F vs ds) : Rps K F vs.dropLast ds.dropLast := by
  rw [List.dropLast_eq_take, List.dropLast_eq_take, h.length]
  exact h.take _
theorem Rps.reverse {F : Hp} : ∀ {vs : List V} {ds : List D}, Rps K F vs ds → Rps K F vs.reverse ds.reverse
  | _, _, .nil => .nil
  | _, _, .cons h t => by
    rw [List.reverse_cons, List.reverse_cons]
    exact (Rps.reverse t).append (.cons h .nil)

/-- what stands at a mutable place -/
def RpO (K : PySem.W.Frag) (F : Hp) : HO → MO → Prop
  | .lst vs, .lst ds => Rps K F vs ds
  | .dK ks, .dK ls => Paired (fun (p : Key × V) (q : Key × D) => p.1 = q.1 ∧ Rp K F p.2 q.2) ks ls
  | .dT ks, .dT ls => Paired (fun (p : List Key × V) (q : List Key × D) => p.1 = q.1 ∧ Rp K F p.2 q.2) ks ls
  | .ins C dx fs, .obj C' dx' fl ds => C = C' ∧ dx = dx' ∧ fl.Nodup ∧ fs.map (·.1) = fl.take ds.length ∧ Rps K F (fs.map (·.2)) ds
  | _, _ => False
theorem Paired.imp {α β : Type} {R S : α → β → Prop} (h : ∀ a b, R a b → S a b) : ∀ {xs : List α} {ys : List β}, Paired R xs ys → Paired S xs ys
  | _, _, .nil => .nil
  | _, _, .cons r t => .cons (h _ _ r) (Paired.imp h t)
theorem RpO.mono {F F' : Hp} (s : Same F F') : ∀ {u : HO} {o : MO}, RpO K F u o → RpO K F' u o
  | .lst _, .lst _, h => Rps.mono s h
  | .dK _, .dK _, h => Paired.imp (fun _ _ q => ⟨q.1, q.2.mono s⟩) h
  | .dT _, .dT _, h => Paired.imp (fun _ _ q => ⟨q.1, q.2.mono s⟩) h
  | .ins _ _ _, .obj _ _ _ _, h => ⟨h.1, h.2.1, h.2.2.1, h.2.2.2.1, Rps.mono s h.2.2.2.2⟩
  | .lst _, .dK _, h => h.elim
  | .lst _, .dT _, h => h.elim
  | .lst _, .obj _ _ _ _, h => h.elim
  | .dK _, .lst _, h => h.elim
  | .dK _, .dT _, h => h.elim
  | .dK _, .obj _ _ _ _, h => h.elim
  | .dT _, .lst _, h => h.elim
  | .dT _, .dK _, h => h.elim
  | .dT _, .obj _ _ _ _, h => h.elim
  | .ins _ _ _, .lst _, h => h.elim
  | .ins _ _ _, .dK _, h => h.elim
  | .ins _ _ _, .dT _, h => h.elim
  | .tup _, _, h => (h : False).elim
  | .set _ _, _, h => (h : False).elim
  | .own _, _, h => (h : False).elim
  | .xd _, _, h => (h : False).elim
  | .met _ _, _, h => (h : False).elim
  | .rng _ _, _, h => (h : False).elim
  | .frz _ _, _, h => (h : False).elim
  | .tbl _, _, h => (h : False).elim
  | .ext _, _, h => (h : False).elim
/-- what a caller hides G, the frozen part F, the heap H, the changing part M -/
structure Rel (K : PySem.W.Frag) (G F H : Hp) (M : MH) : Prop where
  sub : Same F H
  chg : ∀ a o, M a = some o → F a = none ∧ ∃ u, H a = some u ∧ RpO K F u o
  hid : ∀ a o, G a = some o → H a = some o ∧ F a = none ∧ M a = none
theorem same_upd {H : Hp} {p : Addr} {o : HO} (h : H p = none) : Same H (upd H p o) := fun b x e => by
  rw [upd_ne (ne_of_none e h)]
  exact e
section
variable {G F H : Hp} {M : MH}
theorem Rel.free (R : Rel K G F H M) {p : Addr} (h : H p = none) : F p = none ∧ M p = none := by
  refine ⟨R.sub.free h, ?_⟩
  cases e : M p with
  | none => rfl
  | some o =>
    obtain ⟨_, u, hu, _⟩ := R.chg p o e
    rw [h] at hu
    cases hu
theorem Rel.freeG (R : Rel K G F H M) {p : Addr} (h : H p = none) : G p = none := by
  cases e : G p with
  | none => rfl
  | some o =>
    rw [(R.hid p o e).1] at h
    cases h
/-- a new frozen thing -/
theorem Rel.newF (R : Rel K G F H M) {p : Addr} {o : HO} (h : H p = none) : Same F (upd F p o) ∧ Rel K G (upd F p o) (upd H p o) M := by
  have s : Same F (upd F p o) := same_upd (R.free h).1
  refine ⟨s, ⟨fun b u e => ?_, fun a m e => ?_, fun a u e => ?_⟩⟩
  · by_cases q : b = p
    · subst q
      rw [upd_same] at e ⊢
      exact e
    · rw [upd_ne q] at e ⊢
      exact R.sub _ _ e
  · obtain ⟨f, u, hu, r⟩ := R.chg a m e
    have q : a ≠ p := ne_of_none hu h
    exact ⟨by rw [upd_ne q]; exact f, u, by rw [upd_ne q]; exact hu, r.mono s⟩
  · obtain ⟨h1, h2, h3⟩ := R.hid a u e
    have q : a ≠ p := ne_of_none h1 h
    exact ⟨by rw [upd_ne q]; exact h1, by rw [upd_ne q]; exact h2, h3⟩
/-- a new changing thing -/
theorem Rel.newM (R : Rel K G F H M) {p : Addr} {u : HO} {o : MO} (h : H p = none) (r : RpO K F u o) : Rel K G F (upd H p u) (mup M p o) := by
  refine ⟨fun b x e => same_upd h _ _ (R.sub _ _ e), fun a m e => ?_, fun a x e => ?_⟩
  · by_cases q : a = p
    · subst q
      rw [mup_same] at e
      cases e
      exact ⟨(R.free h).1, u, upd_same, r⟩
    · rw [mup_ne q] at e
      obtain ⟨f, x, hx, r⟩ := R.chg a m e
      exact ⟨f, x, by rw [upd_ne q]; exact hx, r⟩
  · obtain ⟨h1, h2, h3⟩ := R.hid a x e
    have q : a ≠ p := ne_of_none h1 h
    exact ⟨by rw [upd_ne q]; exact h1, h2, by rw [mup_ne q]; exact h3⟩
/-- a store -/
theorem Rel.put (R : Rel K G F H M) {p : Addr} {u : HO} {o o0 : MO} (h : M p = some o0) (r : RpO K F u o) : Rel K G F (upd H p u) (mup M p o) := by
  obtain ⟨f0, _, _, _⟩ := R.chg p o0 h
  refine ⟨fun b x e => ?_, fun a m e => ?_, fun a x e => ?_⟩
  · rw [upd_ne (ne_of_none e f0)]
    exact R.sub _ _ e
  · by_cases q : a = p
    · subst q
      rw [mup_same] at e
      cases e
      exact ⟨f0, u, upd_same, r⟩
    · rw [mup_ne q] at e
      obtain ⟨f, x, hx, r⟩ := R.chg a m e
      exact ⟨f, x, by rw [upd_ne q]; exact hx, r⟩
  · obtain ⟨h1, h2, h3⟩ := R.hid a x e
    have q : a ≠ p := fun q => by
      rw [q, h] at h3
      cases h3
    exact ⟨by rw [upd_ne q]; exact h1, h2, by rw [mup_ne q]; exact h3⟩
/-- less is known -/
theorem Rel.drop {M' : MH} (R : Rel K G F H M) (h : ∀ a o, M' a = some o → M a = some o) : Rel K G F H M' := ⟨R.sub, fun a o e => R.chg a o (h a o e), fun a o e => by
  obtain ⟨h1, h2, h3⟩ := R.hid a o e
  refine ⟨h1, h2, ?_⟩
  cases q : M' a with
  | none => rfl
  | some x =>
    rw [h a x q] at h3
    cases h3⟩
/-- a changing list will change no more -/
theorem Rel.freeze (R : Rel K G F H M) {p : Addr} {ds : List D} (h : M p = some (.lst ds)) : ∃ F', Same F F' ∧ Rel K G F' H (mdel M p) ∧ Rp K F' (.ref p) (.lst ds) := by
  obtain ⟨f, u, hu, r⟩ := R.chg p _ h
  cases u with
  | lst vs =>
    have r' : Rps K F vs ds := r
    have s : Same F (upd F p (.lst vs)) := same_upd f
    refine ⟨upd F p (.lst vs), s, ⟨fun b x e => ?_, fun a m e => ?_, fun a x e => ?_⟩, .lst upd_same (r'.mono s)⟩
    · by_cases q : b = p
      · subst q
        rw [upd_same] at e
        rw [hu]
        exact e
      · rw [upd_ne q] at e
        exact R.sub _ _ e
    · unfold mdel at e
      by_cases q : a = p
      · rw [if_pos q] at e
        cases e
      · rw [if_neg q] at e
        obtain ⟨f2, x, hx, r2⟩ := R.chg a m e
        exact ⟨by rw [upd_ne q]; exact f2, x, hx, r2.mono s⟩
    · obtain ⟨h1, h2, h3⟩ := R.hid a x e
      have q : a ≠ p := fun q => by
        rw [q, h] at h3
        cases h3
      refine ⟨h1, by rw [upd_ne q]; exact h2, ?_⟩
      unfold mdel
      rw [if_neg q]
      exact h3
  | _ => exact (r : False).elim
/-- a changing thing is hidden -/
theorem Rel.hide (R : Rel K G F H M) {p : Addr} {o : MO} (h : M p = some o) : ∃ u, H p = some u ∧ RpO K F u o ∧ Rel K (upd G p u) F H (mdel M p) := by
  obtain ⟨f, u, hu, r⟩ := R.chg p _ h
  refine ⟨u, hu, r, R.sub, fun a m e => ?_, fun a x e => ?_⟩
  · unfold mdel at e
    by_cases q : a = p
    · rw [if_pos q] at e
      cases e
    · rw [if_neg q] at e
      exact R.chg a m e
  · unfold mdel
    by_cases q : a = p
    · subst q
      rw [upd_same] at e
      cases e
      exact ⟨hu, f, if_pos rfl⟩
    · rw [upd_ne q] at e
      obtain ⟨h1, h2, h3⟩ := R.hid a x e
      exact ⟨h1, h2, by rw [if_neg q]; exact h3⟩
/-- a new thing, hidden -/
theorem Rel.newG (R : Rel K G F H M) {p : Addr} {u : HO} (h : H p = none) : Rel K (upd G p u) F (upd H p u) M := by
  have q0 : ∀ a x, H a = some x → a ≠ p := fun a x e => ne_of_none e h
  refine ⟨fun b x e => same_upd h _ _ (R.sub _ _ e), fun a m e => ?_, fun a x e => ?_⟩
  · obtain ⟨f, x, hx, r⟩ := R.chg a m e
    exact ⟨f, x, by rw [upd_ne (q0 _ _ hx)]; exact hx, r⟩
  · by_cases q : a = p
    · subst q
      rw [upd_same] at e
      cases e
      exact ⟨upd_same, (R.free h).1, (R.free h).2⟩
    · rw [upd_ne q] at e
      obtain ⟨h1, h2, h3⟩ := R.hid a x e
      exact ⟨by rw [upd_ne q]; exact h1, h2, h3⟩
/-- the hidden thing is changed -/
theorem Rel.putG {u u' : HO} {p : Addr} (R : Rel K (upd G p u) F H M) : Rel K (upd G p u') F (upd H p u') M := by
  obtain ⟨h1, h2, h3⟩ := R.hid p u upd_same
  refine ⟨fun b x e => ?_, fun a m e => ?_, fun a x e => ?_⟩
  · rw [upd_ne (ne_of_none e h2)]
    exact R.sub _ _ e
  · obtain ⟨f, x, hx, r⟩ := R.chg a m e
    have q : a ≠ p := fun q => by
      rw [q, h3] at e
      cases e
    exact ⟨f, x, by rw [upd_ne q]; exact hx, r⟩
  · by_cases q : a = p
    · subst q
      rw [upd_same] at e
      cases e
      exact ⟨upd_same, h2, h3⟩
    · rw [upd_ne q] at e
      obtain ⟨g1, g2, g3⟩ := R.hid a x (by rw [upd_ne q]; exact e)
      exact ⟨by rw [upd_ne q]; exact g1, g2, g3⟩
/-- the hidden thing is shown, frozen | changing -/
theorem Rel.showF {u : HO} {p : Addr} (hg : G p = none) (R : Rel K (upd G p u) F H M) : Same F (upd F p u) ∧ Rel K G (upd F p u) H M := by
  obtain ⟨h1, h2, h3⟩ := R.hid p u upd_same
  have s : Same F (upd F p u) := same_upd h2
  refine ⟨s, fun b x e => ?_, fun a m e => ?_, fun a x e => ?_⟩
  · by_cases q : b = p
    · subst q
      rw [upd_same] at e
      rw [h1]
      exact e
    · rw [upd_ne q] at e
      exact R.sub _ _ e
  · obtain ⟨f, x, hx, r⟩ := R.chg a m e
    have q : a ≠ p := fun q => by
      rw [q, h3] at e
      cases e
    exact ⟨by rw [upd_ne q]; exact f, x, hx, r.mono s⟩
  · have q : a ≠ p := ne_of_none e hg
    obtain ⟨g1, g2, g3⟩ := R.hid a x (by rw [upd_ne q]; exact e)
    exact ⟨g1, by rw [upd_ne q]; exact g2, g3⟩
theorem Rel.showM {u : HO} {o : MO} {p : Addr} (hg : G p = none) (r : RpO K F u o) (R : Rel K (upd G p u) F H M) : Rel K G F H (mup M p o) := by
  obtain ⟨h1, h2, h3⟩ := R.hid p u upd_same
  refine ⟨R.sub, fun a m e => ?_, fun a x e => ?_⟩
  · by_cases q : a = p
    · subst q
      rw [mup_same] at e
      cases e
      exact ⟨h2, u, h1, r⟩
    · rw [mup_ne q] at e
      exact R.chg a m e
  · have q : a ≠ p := ne_of_none e hg
    obtain ⟨g1, g2, g3⟩ := R.hid a x (by rw [upd_ne q]; exact e)
    exact ⟨g1, g2, by rw [mup_ne q]; exact g3⟩
end
end
end Tl

namespace Tl
open PySem PySem.Spec PyProof.Rows L2

/-! ### judgements over trees -/
abbrev Sg := List (Option D)
abbrev VD := D → MH → Prop
abbrev XT := Value → MH → Prop
abbrev TEt := Sg → MH → VD → Prop
abbrev TTt := Sg → MH → (Bool → MH → Prop) → Prop
abbrev TAt := Sg → MH → (List D → MH → Prop) → Prop
structure En where
  nx : Sg → MH → Prop
  rt : VD
  bk : Sg → MH → Prop := fun _ _ => False
  ct : Sg → MH → Prop := fun _ _ => False
abbrev TSt := En → Sg → MH → Prop
def nth : Sg → Nat → Option D
  | [], _ => none
  | x :: _, 0 => x
  | _ :: t, n + 1 => nth t n
theorem nth_get : ∀ {t : Sg} {i : Nat} {d : D}, nth t i = some d → t[i]? = some (some d)
  | [], _, _, h => by cases h
  | x :: _, 0, d, h => by
    show some x = some (some d)
    exact congrArg some h
  | _ :: t, n + 1, d, h => by
    rw [List.getElem?_cons_succ]
    exact nth_get (t := t) h
abbrev Et0 : XT := fun _ _ => False
def Sgr (K : PySem.W.Frag) (F : Hp) (σ : L2.St) (τ : Sg) : Prop := σ.length = τ.length ∧ ∀ (i : Nat) (d : D), τ[i]? = some (some d) → ∃ v, σ[i]? = some (some v) ∧ Rp K F v d
/-- what is wished of exceptions -/
def EL (K : PySem.W.Frag) (G F : Hp) (E : XK) (Et : XT) : Prop := ∀ cls F' H' M', Same F F' → Rel K G F' H' M' → Et cls M' → E cls none H'
structure At (K : PySem.W.Frag) (E : XK) (Et : XT) (G F H : Hp) (M : MH) (σ : L2.St) (τ : Sg) : Prop where
  rel : Rel K G F H M
  sg : Sgr K F σ τ
  el : EL K G F E Et
section
variable {K : PySem.W.Frag} {E : XK} {Et : XT} {G F F' H H' : Hp} {M M' : MH} {σ : L2.St} {τ : Sg}
theorem Sgr.mono (h : Sgr K F σ τ) (s : Same F F') : Sgr K F' σ τ := ⟨h.1, fun i d e => by
  obtain ⟨v, a, b⟩ := h.2 i d e
  exact ⟨v, a, b.mono s⟩⟩
theorem Sgr.set (h : Sgr K F σ τ) {i : Nat} {v : V} {d : D} (r : Rp K F v d) : Sgr K F (σ.set i (some v)) (τ.set i (some d)) := by
  refine ⟨by rw [List.length_set, List.length_set]; exact h.1, fun j e q => ?_⟩
  by_cases hij : i = j
  · subst hij
    by_cases hl : i < τ.length
    · rw [List.getElem?_set_self hl] at q
      rw [List.getElem?_set_self (by rw [h.1]; exact hl)]
      cases q
      exact ⟨v, rfl, r⟩
    · rw [List.getElem?_eq_none (by rw [List.length_set]; omega)] at q
      cases q
  · rw [List.getElem?_set_ne hij] at q ⊢
    exact h.2 j e q
theorem Sgr.unset (h : Sgr K F σ τ) {i : Nat} : Sgr K F (σ.set i none) (τ.set i none) := by
  refine ⟨by rw [List.length_set, List.length_set]; exact h.1, fun j e q => ?_⟩
  by_cases hij : i = j
  · subst hij
    by_cases hl : i < τ.length
    · rw [List.getElem?_set_self hl] at q
      cases q
    · rw [List.getElem?_eq_none (by rw [List.length_set]; omega)] at q
      cases q
  · rw [List.getElem?_set_ne hij] at q ⊢
    exact h.2 j e q
theorem EL.mono (h : EL K G F E Et) (s : Same F F') : EL K G F' E Et := fun cls F2 H2 M2 s2 => h cls F2 H2 M2 (s.trans s2)
theorem EL.never {E : XK} : EL K G F E Et0 := fun _ _ _ _ _ _ h => h.elim
theorem At.step (a : At K E Et G F H M σ τ) (s : Same F F') (r : Rel K G F' H' M') : At K E Et G F' H' M' σ τ := ⟨r, a.sg.mono s, a.el.mono s⟩
theorem At.store (a : At K E Et G F H M σ τ) {i : Nat} {v : V} {d : D} (r : Rp K F v d) : At K E Et G F H M (σ.set i (some v)) (τ.set i (some d)) := ⟨a.rel, a.sg.set r, a.el⟩
end
section
variable (K : PySem.W.Frag) (E : XK) (Et : XT)
def liftE (t : TEt) : TE := fun σ H Q => ∃ G F M τ Qt, At K E Et G F H M σ τ ∧ t τ M Qt ∧ ∀ v F' H' M' d, Same F F' → Rel K G F' H' M' → Rp K F' v d → Qt d M' → Q v H'
def liftT (t : TTt) : TT := fun σ H Q => ∃ G F M τ Qt, At K E Et G F H M σ τ ∧ t τ M Qt ∧ ∀ b F' H' M', Same F F' → Rel K G F' H' M' → Qt b M' → Q b H'
def liftA (t : TAt) : TA := fun σ H Q => ∃ G F M τ Qt, At K E Et G F H M σ τ ∧ t τ M Qt ∧ ∀ vs F' H' M' ds, Same F F' → Rel K G F' H' M' → Rps K F' vs ds → Qt ds M' → Q vs H'
structure EnL (G F : Hp) (D : Ends) (Dt : En) : Prop where
  nx : ∀ F' H' M' σ τ, Same F F' → At K E Et G F' H' M' σ τ → Dt.nx τ M' → D.nx σ H'
  rt : ∀ F' H' M' v d, Same F F' → Rel K G F' H' M' → Rp K F' v d → Dt.rt d M' → D.rt v H'
  bk : ∀ F' H' M' σ τ, Same F F' → At K E Et G F' H' M' σ τ → Dt.bk τ M' → D.bk σ H'
  ct : ∀ F' H' M' σ τ, Same F F' → At K E Et G F' H' M' σ τ → Dt.ct τ M' → D.ct σ H'
def liftS (t : TSt) : TS := fun D σ H => ∃ G F M τ Dt, At K E Et G F H M σ τ ∧ EnL K E Et G F D Dt ∧ t Dt τ M
end
theorem EnL.mono {K : PySem.W.Frag} {E : XK} {Et : XT} {G F F' : Hp} {D : Ends} {Dt : En} (h : EnL K E Et G F D Dt) (s : Same F F') : EnL K E Et G F' D Dt :=
  ⟨fun F2 H2 M2 σ τ s2 => h.nx F2 H2 M2 σ τ (s.trans s2), fun F2 H2 M2 v d s2 => h.rt F2 H2 M2 v d (s.trans s2), fun F2 H2 M2 σ τ s2 => h.bk F2 H2 M2 σ τ (s.trans s2), fun F2 H2 M2 σ τ s2 => h.ct F2 H2 M2 σ τ (s.trans s2)⟩
abbrev QE (X : Cx) (E : XK) (Et : XT) (e : Expr) (t : TEt) : Prop := PE X e (liftE X.K E Et t)
abbrev QT (X : Cx) (E : XK) (Et : XT) (e : Expr) (t : TTt) : Prop := PT X e (liftT X.K E Et t)
abbrev QW (X : Cx) (E : XK) (Et : XT) (e : Expr) (t : TTt) : Prop := PW X e (liftT X.K E Et t)
abbrev QA (X : Cx) (E : XK) (Et : XT) (es : List Expr) (t : TAt) : Prop := PA X es (liftA X.K E Et t)
abbrev QS (X : Cx) (E : XK) (Et : XT) (st : Stmt) (t : TSt) : Prop := PS X st (liftS X.K E Et t)
abbrev QSs (X : Cx) (E : XK) (Et : XT) (st : List Stmt) (t : TSt) : Prop := PSs X st (liftS X.K E Et t)
section
variable {X : Cx}
theorem PEimp {e : Expr} {t t' : TE} (h : PE X e t) (i : ∀ σ H Q, t' σ H Q → t σ H Q) : PE X e t' := ⟨fun pins s σ H Q I w => h.run pins s σ H Q I (i _ _ _ w)⟩
theorem PTimp {e : Expr} {t t' : TT} (h : PT X e t) (i : ∀ σ H Q, t' σ H Q → t σ H Q) : PT X e t' := ⟨fun pins s σ H Q I w => h.run pins s σ H Q I (i _ _ _ w)⟩
theorem PWimp {e : Expr} {t t' : TT} (h : PW X e t) (i : ∀ σ H Q, t' σ H Q → t σ H Q) : PW X e t' := ⟨fun wh pins s σ H Q I w => h.run wh pins s σ H Q I (i _ _ _ w)⟩
theorem PAimp {e : List Expr} {t t' : TA} (h : PA X e t) (i : ∀ σ H Q, t' σ H Q → t σ H Q) : PA X e t' := ⟨fun pos pins s σ H Q I w => h.run pos pins s σ H Q I (i _ _ _ w)⟩
theorem PSimp {e : Stmt} {t t' : TS} (h : PS X e t) (i : ∀ D σ H, t' D σ H → t D σ H) : PS X e t' := ⟨fun pins s σ H D I w => h.run pins s σ H D I (i _ _ _ w)⟩
theorem PSsimp {e : List Stmt} {t t' : TS} (h : PSs X e t) (i : ∀ D σ H, t' D σ H → t D σ H) : PSs X e t' := ⟨fun pins s σ H D I w => h.run pins s σ H D I (i _ _ _ w)⟩
theorem OpRimp {f : Value → Value → Sem Value} {r r' : R2} (h : OpR X f r) (i : ∀ x y H Q, r' x y H Q → r x y H Q) : OpR X f r' := fun pins s σ H x y u v Q I rx ry w => h pins s σ H x y u v Q I rx ry (i _ _ _ _ w)
theorem UnRimp {f : Value → Sem Value} {r r' : V → Hp → VK → Prop} (h : UnR X f r) (i : ∀ x H Q, r' x H Q → r x H Q) : UnR X f r' := fun pins s σ H x u Q I rx w => h pins s σ H x u Q I rx (i _ _ _ w)
theorem CallRimp {f : Value} {r r' : List V → Hp → VK → Prop} (h : CallR X f r) (i : ∀ x H Q, r' x H Q → r x H Q) : CallR X f r' := fun pins s σ H x u Q I rx w => h pins s σ H x u Q I rx (i _ _ _ w)
end
/-! ### names, constants -/
def tV (i : Nat) : TEt := fun τ M Q => match nth τ i with
  | some d => Q d M
  | none => False
def tK (d : D) : TEt := fun _ M Q => Q d M
section
variable {X : Cx} {E : XK} {Et : XT}
theorem lv_var {i : Nat} : ∀ σ H Q, liftE X.K E Et (tV i) σ H Q → tVar i σ H Q := by
  rintro σ H Q ⟨G, F, M, τ, Qt, a, h, k⟩
  unfold tV at h
  cases e : nth τ i with
  | none => rw [e] at h; exact h.elim
  | some d =>
    rw [e] at h
    obtain ⟨v, h1, h2⟩ := a.sg.2 i d (nth_get e)
    exact ⟨v, h1, k v F H M d (Same.refl _) a.rel h2 h⟩
theorem qv (i : Nat) {x : Str} {pos : Pos} (hN : X.N[i]? = some x := by rfl) (hv : Vis X.env.scope x := by first | exact Or.inl rfl | exact Or.inr (Or.inl rfl) | exact Or.inr (Or.inr rfl)) (hd : (x == ("__debug__" : Str)) = false := by decide)
    (hcd : (x == ("__classdict__" : Str)) = false := by decide) : QE X E Et (.Name x pos) (tV i) := PEimp (pe_var hN hv hd hcd) lv_var
theorem lv_c {v : V} {d : D} (r : ∀ F, Rp X.K F v d) : ∀ σ H Q, liftE X.K E Et (tK d) σ H Q → tC v σ H Q := by
  rintro σ H Q ⟨G, F, M, τ, Qt, a, h, k⟩
  exact k v F H M d (Same.refl _) a.rel (r F) h
theorem q_int {i j pos} : QE X E Et (.Constant (.int i) j pos) (tK (.int i)) := PEimp pe_int (lv_c fun _ => .int i)
theorem q_bl {b j pos} : QE X E Et (.Constant (.bool b) j pos) (tK (.bl b)) := PEimp pe_bl (lv_c fun _ => .bl b)
theorem q_non {j pos} : QE X E Et (.Constant .none j pos) (tK .non) := PEimp pe_non (lv_c fun _ => .non)
theorem q_str {x j pos} : QE X E Et (.Constant (.str x) j pos) (tK (.str x)) := PEimp pe_str (lv_c fun _ => .str x)
theorem q_gint {x : Str} {i : Int} {pos : Pos} (hm : ∃ t, X.mg x = some (.int i t)) (hg : Gl X x := by rfl) (hd : (x == ("__debug__" : Str)) = false := by decide) : QE X E Et (.Name x pos) (tK (.int i)) := by
  obtain ⟨t, hm⟩ := hm
  exact PEimp (pe_glob (v := .int i) hg hm ⟨t, rfl⟩ hd) (lv_c fun _ => .int i)
theorem q_gstr {x : Str} {i : Str} {pos : Pos} (hm : ∃ t, X.mg x = some (.str i t)) (hg : Gl X x := by rfl) (hd : (x == ("__debug__" : Str)) = false := by decide) : QE X E Et (.Name x pos) (tK (.str i)) := by
  obtain ⟨t, hm⟩ := hm
  exact PEimp (pe_glob (v := .str i) hg hm ⟨t, rfl⟩ hd) (lv_c fun _ => .str i)
/-- a table of the top: a tuple | a list -/
theorem q_gref {x : Str} {u : Addr} {d : D} {pos : Pos} (hm : X.mg x = some (.ref u)) (r : ∀ F, Rp X.K F (.ref u) d) (hg : Gl X x := by rfl) (hd : (x == ("__debug__" : Str)) = false := by decide) : QE X E Et (.Name x pos) (tK d) :=
  PEimp (pe_glob (v := .ref u) hg hm rfl hd) (lv_c r)
theorem q_ty {x : Str} (T : String) {pos : Pos} (hm : X.mg x = none) (hv : bootBuiltins x = some (.type T)) (hg : Gl X x := by rfl) (hn : x ≠ "__name__" := by decide) (hd : (x == ("__debug__" : Str)) = false := by decide) : QE X E Et (.Name x pos) (tK (.ty T)) :=
  PEimp (pe_bltn (v := .ty T) hg hm hv rfl hn hd) (lv_c fun _ => .ty T)
end
/-! ### operators by values -/
abbrev R2t := D → D → MH → VD → Prop
abbrev R1t := D → MH → VD → Prop
abbrev RLt := List D → MH → VD → Prop
def lr2 (K : PySem.W.Frag) (r : R2t) : R2 := fun x y H Q => ∃ G F M dx dy Qt, Rel K G F H M ∧ Rp K F x dx ∧ Rp K F y dy ∧ r dx dy M Qt ∧ ∀ v F' H' M' d, Same F F' → Rel K G F' H' M' → Rp K F' v d → Qt d M' → Q v H'
def lr1 (K : PySem.W.Frag) (r : R1t) : V → Hp → VK → Prop := fun x H Q => ∃ G F M dx Qt, Rel K G F H M ∧ Rp K F x dx ∧ r dx M Qt ∧ ∀ v F' H' M' d, Same F F' → Rel K G F' H' M' → Rp K F' v d → Qt d M' → Q v H'
def lrL (K : PySem.W.Frag) (r : RLt) : List V → Hp → VK → Prop := fun xs H Q => ∃ G F M ds Qt, Rel K G F H M ∧ Rps K F xs ds ∧ r ds M Qt ∧ ∀ v F' H' M' d, Same F F' → Rel K G F' H' M' → Rp K F' v d → Qt d M' → Q v H'
abbrev OpQ (X : Cx) (f : Value → Value → Sem Value) (r : R2t) : Prop := OpR X f (lr2 X.K r)
abbrev UnQ (X : Cx) (f : Value → Sem Value) (r : R1t) : Prop := UnR X f (lr1 X.K r)
abbrev CallQ (X : Cx) (f : Value) (r : RLt) : Prop := CallR X f (lrL X.K r)
def tO (r : R2t) (ta tb : TEt) : TEt := fun τ M Q => ta τ M fun x M1 => tb τ M1 fun y M2 => r x y M2 Q
def tU (r : R1t) (ta : TEt) : TEt := fun τ M Q => ta τ M fun x M1 => r x M1 Q
def tCa (r : RLt) (ta : TAt) : TEt := fun τ M Q => ta τ M fun xs M1 => r xs M1 Q
section
variable {X : Cx} {E : XK} {Et : XT} {e a b : Expr} {es : List Expr} {ta tb : TEt} {t : TAt} {pos : Pos}
theorem lv_op {r : R2t} : ∀ σ H Q, liftE X.K E Et (tO r ta tb) σ H Q → tOp (lr2 X.K r) (liftE X.K E Et ta) (liftE X.K E Et tb) σ H Q := by
  rintro σ H Q ⟨G, F, M, τ, Qt, a, h, k⟩
  refine ⟨G, F, M, τ, _, a, h, fun v F1 H1 M1 d s1 r1 p1 q1 => ?_⟩
  refine ⟨G, F1, M1, τ, _, a.step s1 r1, q1, fun v2 F2 H2 M2 d2 s2 r2 p2 q2 => ?_⟩
  exact ⟨G, F2, M2, d, d2, Qt, r2, p1.mono s2, p2, q2, fun v F' H' M' d s => k v F' H' M' d ((s1.trans s2).trans s)⟩
theorem q_op {op : Operator} {r : R2t} (ho : OpQ X (binaryOp op) r) (ha : QE X E Et a ta) (hb : QE X E Et b tb) : QE X E Et (.BinOp a op b pos) (tO r ta tb) := PEimp (pe_op ho ha hb) lv_op
theorem q_cmp {op : CmpOp} {r : R2t} (ho : OpQ X (compareOp op) r) (ha : QE X E Et a ta) (hb : QE X E Et b tb) (hm : behindInMarks op b = false := by first | exact nomark _ | rfl) : QE X E Et (.Compare a [op] [b] pos) (tO r ta tb) := PEimp (pe_cmpR ho ha hb hm) lv_op
theorem q_un {op : UnaryOp} {r : R1t} (ho : UnQ X (unaryOp op) r) (ha : QE X E Et a ta) : QE X E Et (.UnaryOp op a pos) (tU r ta) := PEimp (pe_un ho ha) (by
  rintro σ H Q ⟨G, F, M, τ, Qt, a, h, k⟩
  refine ⟨G, F, M, τ, _, a, h, fun v F1 H1 M1 d s1 r1 p1 q1 => ?_⟩
  exact ⟨G, F1, M1, d, Qt, r1, p1, q1, fun v F' H' M' d s => k v F' H' M' d (s1.trans s)⟩)
/-! ### arguments -/
def tN : TAt := fun _ M Q => Q [] M
def tCs (ta : TEt) (tr : TAt) : TAt := fun τ M Q => ta τ M fun x M1 => tr τ M1 fun xs M2 => Q (x :: xs) M2
theorem qa_nil : QA X E Et [] tN := PAimp pa_nil (by
  rintro σ H Q ⟨G, F, M, τ, Qt, a, h, k⟩
  exact k [] F H M [] (Same.refl _) a.rel .nil h)
theorem qa_cons (ha : QE X E Et e ta) (hr : QA X E Et es t) (hs : starEach (e :: es) X.env = (false, eval e X.env) :: starEach es X.env := by rfl) : QA X E Et (e :: es) (tCs ta t) := PAimp (pa_cons ha hr hs) (by
  rintro σ H Q ⟨G, F, M, τ, Qt, a, h, k⟩
  refine ⟨G, F, M, τ, _, a, h, fun v F1 H1 M1 d s1 r1 p1 q1 => ?_⟩
  refine ⟨G, F1, M1, τ, _, a.step s1 r1, q1, fun vs F2 H2 M2 ds s2 r2 p2 q2 => ?_⟩
  exact k (v :: vs) F2 H2 M2 (d :: ds) (s1.trans s2) r2 (.cons (p1.mono s2) p2) q2)
theorem lv_cb {r : RLt} : ∀ σ H Q, liftE X.K E Et (tCa r t) σ H Q → tCB (lrL X.K r) (liftA X.K E Et t) σ H Q := by
  rintro σ H Q ⟨G, F, M, τ, Qt, a, h, k⟩
  refine ⟨G, F, M, τ, _, a, h, fun vs F1 H1 M1 ds s1 r1 p1 q1 => ?_⟩
  exact ⟨G, F1, M1, ds, Qt, r1, p1, q1, fun v F' H' M' d s => k v F' H' M' d (s1.trans s)⟩
theorem q_callB {id : String} {x : Str} {p : Pos} {r : RLt} (hc : CallQ X (.builtin id) r) (hm : X.mg x = none) (hv : bootBuiltins x = some (.builtin id)) (ha : QA X E Et (e :: es) t) (hg : Gl X x := by rfl) (hn : x ≠ "__name__" := by decide) (hdb : (x == ("__debug__" : Str)) = false := by decide)
    (he : starEach (e :: es) X.env = (false, eval e X.env) :: starEach es X.env := by rfl) (hpl : (backTo pos (starEach es X.env)).any (·.1) = false := by rfl) : QE X E Et (.Call (.Name x p) (e :: es) [] pos) (tCa r t) :=
  PEimp (pe_callB hc hg hm hv ha hn hdb he hpl) lv_cb
theorem q_callTy {T : String} {x : Str} {p : Pos} {r : RLt} (hc : CallQ X (.type T) r) (hm : X.mg x = none) (hv : bootBuiltins x = some (.type T)) (ha : QA X E Et (e :: es) t) (hg : Gl X x := by rfl) (hn : x ≠ "__name__" := by decide) (hdb : (x == ("__debug__" : Str)) = false := by decide)
    (he : starEach (e :: es) X.env = (false, eval e X.env) :: starEach es X.env := by rfl) (hpl : (backTo pos (starEach es X.env)).any (·.1) = false := by rfl) : QE X E Et (.Call (.Name x p) (e :: es) [] pos) (tCa r t) :=
  PEimp (pe_callTy hc hg hm hv ha hn hdb he hpl) lv_cb
end
/-! ### tests -/
def tBo (t : TEt) : TTt := fun τ M Q => t τ M fun x M1 => match x with
  | .bl c => Q c M1
  | _ => False
def tAn (t u : TTt) : TTt := fun τ M Q => t τ M fun c M1 => if c = true then u τ M1 Q else Q false M1
def tOr' (t u : TTt) : TTt := fun τ M Q => t τ M fun c M1 => if c = true then Q true M1 else u τ M1 Q
def tNo (t : TTt) : TTt := fun τ M Q => t τ M fun c M1 => Q (!c) M1
def tAnV (ta tb : TEt) : TEt := fun τ M Q => ta τ M fun x M1 => match x with
  | .bl c => if c = true then tb τ M1 Q else Q (.bl false) M1
  | _ => False
def tOrV' (ta tb : TEt) : TEt := fun τ M Q => ta τ M fun x M1 => match x with
  | .bl c => if c = true then Q (.bl true) M1 else tb τ M1 Q
  | _ => False
def tNoV (ta : TEt) : TEt := fun τ M Q => ta τ M fun x M1 => match x with
  | .bl c => Q (.bl (!c)) M1
  | _ => False
def tIfE (t : TTt) (ta tb : TEt) : TEt := fun τ M Q => t τ M fun c M1 => if c = true then ta τ M1 Q else tb τ M1 Q
section
variable {X : Cx} {E : XK} {Et : XT} {e a b c : Expr} {rest : List Expr} {ta tb : TEt} {t u : TTt} {pos : Pos}
theorem Rp.bl_inv {K : PySem.W.Frag} {F : Hp} {v : V} {c : Bool} (h : Rp K F v (.bl c)) : v = .bl c := by cases h; rfl
theorem lv_bo : ∀ σ H Q, liftT X.K E Et (tBo ta) σ H Q → tB (liftE X.K E Et ta) σ H Q := by
  rintro σ H Q ⟨G, F, M, τ, Qt, a, h, k⟩
  refine ⟨G, F, M, τ, _, a, h, fun v F1 H1 M1 d s1 r1 p1 q1 => ?_⟩
  cases d with
  | bl c => exact ⟨c, p1.bl_inv, k c F1 H1 M1 s1 r1 q1⟩
  | _ => exact q1.elim
theorem qt_val (h : QE X E Et e ta) (he : ∀ whole, isTrue e X.env whole = (do let v ← whole; standAt e.pos; holding [v] (truthy v)) := by intro _; rfl) : QT X E Et e (tBo ta) := PTimp (pt_val h he) lv_bo
theorem qt_cmp {op : CmpOp} {r : R2t} (ho : OpQ X (compareOp op) r) (ha : QE X E Et a ta) (hb : QE X E Et b tb) (hm : behindInMarks op b = false := by first | exact nomark _ | rfl) : QT X E Et (.Compare a [op] [b] pos) (tBo (tO r ta tb)) := PTimp (pt_cmpR ho ha hb hm) (by
  rintro σ H Q ⟨G, F, M, τ, Qt, a, h, k⟩
  refine lv_op _ _ _ ⟨G, F, M, τ, _, a, h, fun v F1 H1 M1 d s1 r1 p1 q1 => ?_⟩
  cases d with
  | bl c => exact ⟨c, p1.bl_inv, k c F1 H1 M1 s1 r1 q1⟩
  | _ => exact q1.elim)
theorem qw_and1 (ha : QT X E Et a t) : QW X E Et (.BoolOp .And [a] pos) t := pw_and1 ha
theorem qw_or1 (ha : QT X E Et a t) : QW X E Et (.BoolOp .Or [a] pos) t := pw_or1 ha
theorem qw_and (ha : QT X E Et a t) (hb : QW X E Et (.BoolOp .And (b :: rest) pos) u) : QW X E Et (.BoolOp .And (a :: b :: rest) pos) (tAn t u) := PWimp (pw_and ha hb) (by
  rintro σ H Q ⟨G, F, M, τ, Qt, a, h, k⟩
  refine ⟨G, F, M, τ, _, a, h, fun b F1 H1 M1 s1 r1 q1 => ?_⟩
  cases b with
  | true =>
    rw [if_pos rfl] at q1 ⊢
    exact ⟨G, F1, M1, τ, Qt, a.step s1 r1, q1, fun b F2 H2 M2 s2 => k b F2 H2 M2 (s1.trans s2)⟩
  | false =>
    rw [if_neg Bool.false_ne_true] at q1 ⊢
    exact k false F1 H1 M1 s1 r1 q1)
theorem qw_or (ha : QT X E Et a t) (hb : QW X E Et (.BoolOp .Or (b :: rest) pos) u) : QW X E Et (.BoolOp .Or (a :: b :: rest) pos) (tOr' t u) := PWimp (pw_or ha hb) (by
  rintro σ H Q ⟨G, F, M, τ, Qt, a, h, k⟩
  refine ⟨G, F, M, τ, _, a, h, fun b F1 H1 M1 s1 r1 q1 => ?_⟩
  cases b with
  | true =>
    rw [if_pos rfl] at q1 ⊢
    exact k true F1 H1 M1 s1 r1 q1
  | false =>
    rw [if_neg Bool.false_ne_true] at q1 ⊢
    exact ⟨G, F1, M1, τ, Qt, a.step s1 r1, q1, fun b F2 H2 M2 s2 => k b F2 H2 M2 (s1.trans s2)⟩)
theorem qt_w (h : QW X E Et e t) : QT X E Et e t := h.pt
theorem qt_not (ha : QT X E Et a t) : QT X E Et (.UnaryOp .Not a pos) (tNo t) := PTimp (pt_not ha) (by
  rintro σ H Q ⟨G, F, M, τ, Qt, a, h, k⟩
  exact ⟨G, F, M, τ, _, a, h, fun b F1 H1 M1 s1 r1 q1 => k _ F1 H1 M1 s1 r1 q1⟩)
theorem q_one {op} (h : QE X E Et a ta) : QE X E Et (.BoolOp op [a] pos) ta := pe_one h
theorem q_and (ha : QE X E Et a ta) (hb : QE X E Et (.BoolOp .And (b :: rest) pos) tb) : QE X E Et (.BoolOp .And (a :: b :: rest) pos) (tAnV ta tb) := PEimp (pe_and ha hb) (by
  rintro σ H Q ⟨G, F, M, τ, Qt, a, h, k⟩
  refine ⟨G, F, M, τ, _, a, h, fun v F1 H1 M1 d s1 r1 p1 q1 => ?_⟩
  cases d with
  | bl c =>
    refine ⟨c, p1.bl_inv, ?_⟩
    cases c with
    | true =>
      rw [if_pos rfl]
      exact ⟨G, F1, M1, τ, Qt, a.step s1 r1, q1, fun v F2 H2 M2 d s2 => k v F2 H2 M2 d (s1.trans s2)⟩
    | false =>
      rw [if_neg Bool.false_ne_true]
      exact k _ F1 H1 M1 _ s1 r1 (.bl false) q1
  | _ => exact q1.elim)
theorem q_or (ha : QE X E Et a ta) (hb : QE X E Et (.BoolOp .Or (b :: rest) pos) tb) : QE X E Et (.BoolOp .Or (a :: b :: rest) pos) (tOrV' ta tb) := PEimp (pe_or ha hb) (by
  rintro σ H Q ⟨G, F, M, τ, Qt, a, h, k⟩
  refine ⟨G, F, M, τ, _, a, h, fun v F1 H1 M1 d s1 r1 p1 q1 => ?_⟩
  cases d with
  | bl c =>
    refine ⟨c, p1.bl_inv, ?_⟩
    cases c with
    | true =>
      rw [if_pos rfl]
      exact k _ F1 H1 M1 _ s1 r1 (.bl true) q1
    | false =>
      rw [if_neg Bool.false_ne_true]
      exact ⟨G, F1, M1, τ, Qt, a.step s1 r1, q1, fun v F2 H2 M2 d s2 => k v F2 H2 M2 d (s1.trans s2)⟩
  | _ => exact q1.elim)
theorem q_not (ha : QE X E Et a ta) : QE X E Et (.UnaryOp .Not a pos) (tNoV ta) := PEimp (pe_not ha) (by
  rintro σ H Q ⟨G, F, M, τ, Qt, a, h, k⟩
  refine ⟨G, F, M, τ, _, a, h, fun v F1 H1 M1 d s1 r1 p1 q1 => ?_⟩
  cases d with
  | bl c => exact ⟨c, p1.bl_inv, k _ F1 H1 M1 _ s1 r1 (.bl _) q1⟩
  | _ => exact q1.elim)
theorem q_ifE (hc : QT X E Et c t) (ha : QE X E Et a ta) (hb : QE X E Et b tb) : QE X E Et (.IfExp c a b pos) (tIfE t ta tb) := PEimp (pe_ifExp hc ha hb) (by
  rintro σ H Q ⟨G, F, M, τ, Qt, a, h, k⟩
  refine ⟨G, F, M, τ, _, a, h, fun b F1 H1 M1 s1 r1 q1 => ?_⟩
  cases b with
  | true =>
    rw [if_pos rfl] at q1 ⊢
    exact ⟨G, F1, M1, τ, Qt, a.step s1 r1, q1, fun v F2 H2 M2 d s2 => k v F2 H2 M2 d (s1.trans s2)⟩
  | false =>
    rw [if_neg Bool.false_ne_true] at q1 ⊢
    exact ⟨G, F1, M1, τ, Qt, a.step s1 r1, q1, fun v F2 H2 M2 d s2 => k v F2 H2 M2 d (s1.trans s2)⟩)
/-- a < b < c -/
def tCh (r r' : R2t) (ta tb tc : TEt) : TEt := fun τ M Q => ta τ M fun x M1 => tb τ M1 fun y M2 => r x y M2 fun z M3 => match z with
  | .bl k => if k = true then tc τ M3 fun w M4 => r' y w M4 Q else Q (.bl false) M3
  | _ => False
theorem lv_chain {r r' : R2t} {tc : TEt} : ∀ σ H Q, liftE X.K E Et (tCh r r' ta tb tc) σ H Q → tChain (lr2 X.K r) (lr2 X.K r') (liftE X.K E Et ta) (liftE X.K E Et tb) (liftE X.K E Et tc) σ H Q := by
  rintro σ H Q ⟨G, F, M, τ, Qt, a, h, k⟩
  refine ⟨G, F, M, τ, _, a, h, fun v F1 H1 M1 d s1 r1 p1 q1 => ?_⟩
  refine ⟨G, F1, M1, τ, _, a.step s1 r1, q1, fun v2 F2 H2 M2 d2 s2 r2 p2 q2 => ?_⟩
  refine ⟨G, F2, M2, d, d2, _, r2, p1.mono s2, p2, q2, fun z F3 H3 M3 dz s3 r3 p3 q3 => ?_⟩
  cases dz with
  | bl c =>
    refine ⟨c, p3.bl_inv, ?_⟩
    cases c with
    | true =>
      rw [if_pos rfl]
      refine ⟨G, F3, M3, τ, _, a.step ((s1.trans s2).trans s3) r3, q3, fun v4 F4 H4 M4 d4 s4 r4 p4 q4 => ?_⟩
      exact ⟨G, F4, M4, d2, d4, Qt, r4, p2.mono (s3.trans s4), p4, q4, fun v F' H' M' d s => k v F' H' M' d ((((s1.trans s2).trans s3).trans s4).trans s)⟩
    | false =>
      rw [if_neg Bool.false_ne_true]
      exact k _ F3 H3 M3 _ ((s1.trans s2).trans s3) r3 (.bl false) q3
  | _ => exact q3.elim
theorem q_chain {op op' : CmpOp} {r r' : R2t} {tc : TEt} (ho : OpQ X (compareOp op) r) (ho' : OpQ X (compareOp op') r') (ha : QE X E Et a ta) (hb : QE X E Et b tb) (hc : QE X E Et c tc)
    (hm : lastMarks [op, op'] [b, c] = false := by with_unfolding_all rfl) : QE X E Et (.Compare a [op, op'] [b, c] pos) (tCh r r' ta tb tc) := PEimp (pe_chain ho ho' ha hb hc hm) lv_chain
theorem qt_chain {op op' : CmpOp} {r r' : R2t} {tc : TEt} (ho : OpQ X (compareOp op) r) (ho' : OpQ X (compareOp op') r') (ha : QE X E Et a ta) (hb : QE X E Et b tb) (hc : QE X E Et c tc)
    (hm : lastMarks [op, op'] [b, c] = false := by with_unfolding_all rfl) : QT X E Et (.Compare a [op, op'] [b, c] pos) (tBo (tCh r r' ta tb tc)) := PTimp (pt_chain ho ho' ha hb hc hm) (by
  rintro σ H Q ⟨G, F, M, τ, Qt, a, h, k⟩
  refine lv_chain _ _ _ ⟨G, F, M, τ, _, a, h, fun v F1 H1 M1 d s1 r1 p1 q1 => ?_⟩
  cases d with
  | bl c => exact ⟨c, p1.bl_inv, k c F1 H1 M1 s1 r1 q1⟩
  | _ => exact q1.elim)
end
end Tl

namespace Tl
open PySem PySem.Spec PyProof.Rows L2

/-! ### calls of the text's own defs -/
abbrev SpT := List D → MH → VD → XT → Prop
def lSp (K : PySem.W.Frag) (sp : SpT) : Sp := fun vs H Q E => ∃ G F M ds Qt Et, Rel K G F H M ∧ Rps K F vs ds ∧ EL K G F E Et ∧ sp ds M Qt Et ∧ ∀ v F' H' M' d, Same F F' → Rel K G F' H' M' → Rp K F' v d → Qt d M' → Q v H'
/-- a def of the text, called by its name x -/
structure Fn (P : Program) (w : World) (K : PySem.W.Frag) (mg : Str → Option Value) (base : Heap) (CX : CXT) (k : Nat) (x : Str) (sp : SpT) : Prop where
  ok : ∃ fd ps, FnOk P w K mg base CX k (He.ga K x) fd ps (lSp K sp) ∧ Binds K fd ps []
  m : mg x = some (.ref (He.ga K x))
  kp : PySem.W.keepIn K (.ref (He.ga K x)) = true
def tCl (sp : SpT) (Et : XT) (t : TAt) : TEt := fun τ M Q => t τ M fun ds M1 => sp ds M1 Q Et
section
variable {X : Cx} {E E' : XK} {Et Et' : XT} {e : Expr} {es : List Expr} {t : TAt} {pos p : Pos} {sp : SpT} {k : Nat} {x : Str}
theorem lv_call (hE : ∀ G F, EL X.K G F E Et → EL X.K G F E' Et') : ∀ σ H Q, liftE X.K E Et (tCl sp Et' t) σ H Q → tCall (lSp X.K sp) [] E' (liftA X.K E Et t) σ H Q := by
  rintro σ H Q ⟨G, F, M, τ, Qt, a, h, k⟩
  refine ⟨G, F, M, τ, _, a, h, fun vs F1 H1 M1 ds s1 r1 p1 q1 => ?_⟩
  show lSp X.K sp (vs ++ []) H1 Q E'
  rw [List.append_nil]
  exact ⟨G, F1, M1, ds, Qt, Et', r1, p1, hE G F1 (a.el.mono s1), q1, fun v F' H' M' d s => k v F' H' M' d (s1.trans s)⟩
theorem q_call (Fo : Fn X.prog X.w X.K X.mg X.base CX0 k x sp) (hr : Room k X.A) (ha : QA X E Et (e :: es) t) (hg : Gl X x := by rfl) (hdb : (x == ("__debug__" : Str)) = false := by decide)
    (he : starEach (e :: es) X.env = (false, eval e X.env) :: starEach es X.env := by rfl) (hpl : (backTo pos (starEach es X.env)).any (·.1) = false := by rfl) : QE X E Et (.Call (.Name x p) (e :: es) [] pos) (tCl sp Et0 t) := by
  obtain ⟨⟨fd, ps, F1, b⟩, m, kp⟩ := Fo
  exact PEimp (pe_call F1 hr hg m kp b .nil pass0 ha hdb he hpl) (lv_call fun _ _ _ => .never)
theorem q_call0 (Fo : Fn X.prog X.w X.K X.mg X.base CX0 k x sp) (hr : Room k X.A) (hg : Gl X x := by rfl) (hdb : (x == ("__debug__" : Str)) = false := by decide) : QE X E Et (.Call (.Name x p) [] [] pos) (tCl sp Et0 tN) := by
  obtain ⟨⟨fd, ps, F1, b⟩, m, kp⟩ := Fo
  refine PEimp (pe_call0 F1 hr hg m kp b .nil pass0 hdb) fun σ H Q h => ?_
  obtain ⟨G, F, M, τ, Qt, a, h, k⟩ := h
  exact ⟨G, F, M, [], Qt, Et0, a.rel, .nil, .never, h, k⟩
end
/-! ### statements -/
def sNx : TSt := fun D τ M => D.nx τ M
def sSq (t u : TSt) : TSt := fun D τ M => t { D with nx := u D } τ M
def sBk : TSt := fun D τ M => D.bk τ M
def sCt : TSt := fun D τ M => D.ct τ M
def sDr (t : TEt) : TSt := fun D τ M => t τ M fun _ M1 => D.nx τ M1
def sRt (t : TEt) : TSt := fun D τ M => t τ M D.rt
def sRtN : TSt := fun D _ M => D.rt .non M
def sIf (c : TTt) (t u : TSt) : TSt := fun D τ M => c τ M fun b M1 => if b = true then t D τ M1 else u D τ M1
abbrev TGt := D → Sg → MH → (Sg → MH → Prop) → Prop
abbrev TGst := List D → Sg → MH → (Sg → MH → Prop) → Prop
def liftG (K : PySem.W.Frag) (E : XK) (Et : XT) (t : TGt) : TG := fun v σ H Q => ∃ G F M τ d Qt, At K E Et G F H M σ τ ∧ Rp K F v d ∧ t d τ M Qt ∧ ∀ F' H' M' σ' τ', Same F F' → At K E Et G F' H' M' σ' τ' → Qt τ' M' → Q σ' H'
def liftGs (K : PySem.W.Frag) (E : XK) (Et : XT) (t : TGst) : TGs := fun vs σ H Q => ∃ G F M τ ds Qt, At K E Et G F H M σ τ ∧ Rps K F vs ds ∧ t ds τ M Qt ∧ ∀ F' H' M' σ' τ', Same F F' → At K E Et G F' H' M' σ' τ' → Qt τ' M' → Q σ' H'
def gN (i : Nat) : TGt := fun d τ M Q => Q (τ.set i (some d)) M
def gNl : TGst := fun ds τ M Q => match ds with
  | [] => Q τ M
  | _ :: _ => False
def gCs (t : TGt) (u : TGst) : TGst := fun ds τ M Q => match ds with
  | [] => False
  | d :: r => t d τ M fun τ' M' => u r τ' M' Q
def gTp (n : Nat) (t : TGst) : TGt := fun d τ M Q => match d with
  | .tup ds => ds.length = n ∧ t ds τ M Q
  | _ => False
/-- o[i] = v by values -/
abbrev TSett := D → D → D → MH → (MH → Prop) → Prop
def lSet (K : PySem.W.Frag) (t : TSett) : TSet := fun o i v H Q => ∃ G F M od idd vd Qt, Rel K G F H M ∧ Rp K F o od ∧ Rp K F i idd ∧ Rp K F v vd ∧ t od idd vd M Qt ∧ ∀ F' H' M', Same F F' → Rel K G F' H' M' → Qt M' → Q H'
def gSb (to ti : TEt) (t : TSett) : TGt := fun v τ M Q => to τ M fun o M1 => ti τ M1 fun i M2 => t o i v M2 fun M3 => Q τ M3
abbrev QG (X : Cx) (E : XK) (Et : XT) (e : Expr) (t : TGt) : Prop := PG X e (liftG X.K E Et t)
abbrev QGs (X : Cx) (E : XK) (Et : XT) (e : List Expr) (t : TGst) : Prop := PGs X e (liftGs X.K E Et t)
def sAs (te : TEt) (g : TGt) : TSt := fun D τ M => te τ M fun x M1 => g x τ M1 D.nx
section
variable {X : Cx} {E : XK} {Et : XT} {st : Stmt} {rest : List Stmt} {t u : TSt} {e : Expr} {te : TEt} {pos : Pos}
theorem qss_nil : QSs X E Et [] sNx := PSsimp pss_nil (by
  rintro D σ H ⟨G, F, M, τ, Dt, a, en, h⟩
  exact en.nx F H M σ τ (Same.refl _) a h)
theorem qss_cons (h1 : QS X E Et st t) (h2 : QSs X E Et rest u) : QSs X E Et (st :: rest) (sSq t u) := PSsimp (pss_cons h1 h2) (by
  rintro D σ H ⟨G, F, M, τ, Dt, a, en, h⟩
  exact ⟨G, F, M, τ, { Dt with nx := u Dt }, a, ⟨fun F' H' M' σ' τ' s a' h' => ⟨G, F', M', τ', Dt, a', en.mono s, h'⟩, en.rt, en.bk, en.ct⟩, h⟩)
theorem qss_one (h1 : QS X E Et st t) : QSs X E Et [st] t := pss_one h1
theorem qs_pass : QS X E Et (.Pass pos) sNx := PSimp ps_pass (by
  rintro D σ H ⟨G, F, M, τ, Dt, a, en, h⟩
  exact en.nx F H M σ τ (Same.refl _) a h)
theorem qs_break : QS X E Et (.Break pos) sBk := PSimp ps_break (by
  rintro D σ H ⟨G, F, M, τ, Dt, a, en, h⟩
  exact en.bk F H M σ τ (Same.refl _) a h)
theorem qs_continue : QS X E Et (.Continue pos) sCt := PSimp ps_continue (by
  rintro D σ H ⟨G, F, M, τ, Dt, a, en, h⟩
  exact en.ct F H M σ τ (Same.refl _) a h)
theorem qs_doc {x j pos pos'} : QS X E Et (.Expr (.Constant (.str x) j pos) pos') sNx := PSimp ps_doc (by
  rintro D σ H ⟨G, F, M, τ, Dt, a, en, h⟩
  exact en.nx F H M σ τ (Same.refl _) a h)
theorem qs_expr (he : QE X E Et e te) (hs : swapsWith e none pos.line X.env = pure false := by rfl) : QS X E Et (.Expr e pos) (sDr te) := PSimp (ps_expr he hs) (by
  rintro D σ H ⟨G, F, M, τ, Dt, a, en, h⟩
  exact ⟨G, F, M, τ, _, a, h, fun v F' H' M' d s r p q => en.nx F' H' M' σ τ s (a.step s r) q⟩)
theorem qs_ret (he : QE X E Et e te) : QS X E Et (.Return (some e) pos) (sRt te) := PSimp (ps_ret he) (by
  rintro D σ H ⟨G, F, M, τ, Dt, a, en, h⟩
  exact ⟨G, F, M, τ, _, a, h, fun v F' H' M' d s r p q => en.rt F' H' M' v d s r p q⟩)
theorem qs_retN : QS X E Et (.Return none pos) sRtN := PSimp ps_retN (by
  rintro D σ H ⟨G, F, M, τ, Dt, a, en, h⟩
  exact en.rt F H M _ _ (Same.refl _) a.rel .non h)
theorem qs_if {c : Expr} {a b : List Stmt} {tc : TTt} (hc : QT X E Et c tc) (ha : QSs X E Et a t) (hb : QSs X E Et b u) : QS X E Et (.If c a b pos) (sIf tc t u) := PSimp (ps_if hc ha hb) (by
  rintro D σ H ⟨G, F, M, τ, Dt, a, en, h⟩
  refine ⟨G, F, M, τ, _, a, h, fun b F' H' M' s r q => ?_⟩
  cases b with
  | true =>
    rw [if_pos rfl] at q ⊢
    exact ⟨G, F', M', τ, Dt, a.step s r, en.mono s, q⟩
  | false =>
    rw [if_neg Bool.false_ne_true] at q ⊢
    exact ⟨G, F', M', τ, Dt, a.step s r, en.mono s, q⟩)
/-! targets -/
theorem qg_name {i : Nat} {x : Str} (hN : X.N.Nodup) (hi : X.N[i]? = some x := by rfl) (hx : Loc X.env.scope x := by first | exact Or.inl rfl | exact Or.inr rfl) (hf : X.fn x = true ∨ X.env.scope.names.lookup x = some .local := by first | exact .inl rfl | exact .inr rfl | assumption) : QG X E Et (.Name x pos) (gN i) := by
  refine ⟨fun pins s σ H v u Q I r h => ?_⟩
  obtain ⟨G, F, M, τ, d, Qt, a, p, h, k⟩ := h
  exact (pg_name hN hi hx hf).run pins s σ H v u Q I r (k F H M _ _ (Same.refl _) (a.store p) h)
theorem qgs_nil : QGs X E Et [] gNl := by
  refine ⟨fun pins s σ H vs us Q I r h => ?_⟩
  obtain ⟨G, F, M, τ, ds, Qt, a, p, h, k⟩ := h
  cases p with
  | nil => exact pgs_nil.run pins s σ H [] us Q I r ⟨rfl, k F H M _ _ (Same.refl _) a h⟩
  | cons _ _ => exact (show False from h).elim
theorem qgs_cons {es : List Expr} {t : TGt} {u : TGst} (h1 : QG X E Et e t) (h2 : QGs X E Et es u)
    (hs : (assignEach (e :: es) X.env).map (·.2) = assign e X.env :: (assignEach es X.env).map (·.2) := by rfl) : QGs X E Et (e :: es) (gCs t u) := by
  refine ⟨fun pins s σ H vs us Q I r h => ?_⟩
  obtain ⟨G, F, M, τ, ds, Qt, a, p, h, k⟩ := h
  cases p with
  | nil => exact (show False from h).elim
  | cons p1 p2 =>
    refine (pgs_cons h1 h2 hs).run pins s σ H _ us Q I r ⟨_, _, rfl, G, F, M, τ, _, _, a, p1, h, fun F1 H1 M1 σ1 τ1 s1 a1 q1 => ?_⟩
    exact ⟨G, F1, M1, τ1, _, Qt, a1, p2.mono s1, q1, fun F' H' M' σ' τ' s => k F' H' M' σ' τ' (s1.trans s)⟩
theorem qg_tup {es : List Expr} {k : Nat} {t : TGst} {n : Nat} (hc : X.calm = true) (h : QGs X E Et es t)
    (hn : (assignEach es X.env).length = n := by rfl) (hst : (assignEach es X.env).findIdx? (·.1) = none := by rfl) : QG X E Et (.Tuple es k pos) (gTp n t) := by
  refine ⟨fun pins s σ H v u Q I r hw => ?_⟩
  obtain ⟨G, F, M, τ, d, Qt, a, p, hw, k⟩ := hw
  cases p with
  | tup h0 r0 =>
    obtain ⟨hl, hw⟩ := (show _ ∧ _ from hw)
    exact (pg_tup hc h hn hst).run pins s σ H _ u Q I r ⟨_, _, rfl, SqT.of (a.rel.sub _ _ h0), by rw [r0.length]; exact hl, G, F, M, τ, _, Qt, a, r0, hw, k⟩
  | _ => exact (show False from hw).elim
theorem qg_sub {o i : Expr} {to ti : TEt} {t : TSett} (ho : QE X E Et o to) (hi : QE X E Et i ti) (hs : PSet X (lSet X.K t))
    (ha : ∀ v, assign (.Subscript o i pos) X.env v = (do
      let ov ← holding [v] (eval o X.env)
      let iv ← holding [v, ov] (eval i X.env)
      standAt pos
      holding [v, ov, iv] (setItem ov iv v)
      release [v, ov, iv] []) := by intro _; rfl) : QG X E Et (.Subscript o i pos) (gSb to ti t) := by
  refine ⟨fun pins s σ H v u Q I r hw => ?_⟩
  obtain ⟨G, F, M, τ, d, Qt, a, p, hw, k⟩ := hw
  refine (pg_sub ho hi hs ha).run pins s σ H v u Q I r ?_
  refine ⟨G, F, M, τ, _, a, hw, fun v1 F1 H1 M1 d1 s1 r1 p1 q1 => ?_⟩
  refine ⟨G, F1, M1, τ, _, a.step s1 r1, q1, fun v2 F2 H2 M2 d2 s2 r2 p2 q2 => ?_⟩
  exact ⟨G, F2, M2, d1, d2, d, _, r2, p1.mono s2, p2, p.mono (s1.trans s2), q2, fun F3 H3 M3 s3 r3 q3 => k F3 H3 M3 σ τ ((s1.trans s2).trans s3) (a.step ((s1.trans s2).trans s3) r3) q3⟩
theorem lv_asg {g : TGt} : ∀ D σ H, liftS X.K E Et (sAs te g) D σ H → tAsg (liftE X.K E Et te) (liftG X.K E Et g) D σ H := by
  rintro D σ H ⟨G, F, M, τ, Dt, a, en, h⟩
  refine ⟨G, F, M, τ, _, a, h, fun v F1 H1 M1 d s1 r1 p1 q1 => ?_⟩
  exact ⟨G, F1, M1, τ, d, _, a.step s1 r1, p1, q1, fun F' H' M' σ' τ' s a' q => en.nx F' H' M' σ' τ' (s1.trans s) a' q⟩
theorem qs_asg {tg : Expr} {g : TGt} (he : QE X E Et e te) (hg : QG X E Et tg g) (hs : swapsWithSole [tg] e pos.line X.env = pure false := by rfl) (hw : swappedStores [tg] e X.env = pure none := by rfl)
    (h1 : (assignEach [tg] X.env).map (·.2) = [assign tg X.env] := by rfl) : QS X E Et (.Assign [tg] e pos) (sAs te g) := PSimp (ps_asg he hg hs hw h1) lv_asg
theorem qs_set {i : Nat} {x : Str} {pos' : Pos} (hN : X.N.Nodup) (he : QE X E Et e te) (hi : X.N[i]? = some x := by rfl) (hx : Loc X.env.scope x := by first | exact Or.inl rfl | exact Or.inr rfl) (hs : swapsWith e (some (.Name x pos')) pos.line X.env = pure false := by rfl) (hf : X.fn x = true ∨ X.env.scope.names.lookup x = some .local := by first | exact .inl rfl | exact .inr rfl | assumption) :
    QS X E Et (.Assign [.Name x pos'] e pos) (sAs te (gN i)) := PSimp (ps_set hN hi hx he hs hf) (by
  rintro D σ H ⟨G, F, M, τ, Dt, a, en, h⟩
  refine ⟨G, F, M, τ, _, a, h, fun v F1 H1 M1 d s1 r1 p1 q1 => ?_⟩
  exact en.nx F1 H1 M1 _ _ s1 ((a.step s1 r1).store p1) q1)
/-- x += e -/
def sAg (i : Nat) (te : TEt) (r : R2t) : TSt := fun D τ M => match nth τ i with
  | some x => te τ M fun y M1 => r x y M1 fun z M2 => D.nx (τ.set i (some z)) M2
  | none => False
theorem qs_aug {i : Nat} {x : Str} {op : Operator} {r : R2t} {pos' : Pos} (hN : X.N.Nodup) (ho : OpQ X (inplaceOp op) r) (he : QE X E Et e te) (hi : X.N[i]? = some x := by rfl) (hx : Loc X.env.scope x := by first | exact Or.inl rfl | exact Or.inr rfl) (hf : X.fn x = true ∨ X.env.scope.names.lookup x = some .local := by first | exact .inl rfl | exact .inr rfl | assumption) :
    QS X E Et (.AugAssign (.Name x pos') op e pos) (sAg i te r) := PSimp (ps_aug hN hi hx he (fun pins s σ H x y v u Q I rx ry h => ho pins s σ H x y v u Q I rx ry h) hf) (by
  rintro D σ H ⟨G, F, M, τ, Dt, a, en, h⟩
  unfold sAg at h
  cases q : nth τ i with
  | none => rw [q] at h; exact h.elim
  | some d =>
    rw [q] at h
    obtain ⟨v, h1, h2⟩ := a.sg.2 i d (nth_get q)
    refine ⟨v, h1, G, F, M, τ, _, a, h, fun v1 F1 H1 M1 d1 s1 r1 p1 q1 => ?_⟩
    exact ⟨G, F1, M1, d, d1, _, r1, h2.mono s1, p1, q1, fun v2 F2 H2 M2 d2 s2 r2 p2 q2 => en.nx F2 H2 M2 _ _ (s1.trans s2) ((a.step (s1.trans s2) r2).store p2) q2⟩)
end
/-! ### loops -/
/-- while: W by a measure -/
def sWh (c : TTt) (tb : TSt) : TSt := fun D τ M => ∃ W : Nat → Sg → MH → Prop, (∃ m, W m τ M) ∧ ∀ m τ M, W m τ M →
  c τ M fun b M1 => if b = true then tb { D with nx := fun τ' M' => ∃ m', m' < m ∧ W m' τ' M', ct := fun τ' M' => ∃ m', m' < m ∧ W m' τ' M', bk := D.nx } τ M1 else D.nx τ M1
section
variable {X : Cx} {E : XK} {Et : XT} {pos : Pos}
theorem qs_while {c : Expr} {body : List Stmt} {tc : TTt} {tb : TSt} (hp : PassesOwn (model X.prog X.w) X.A X.env X.xe) (hc : QT X E Et c tc) (hb : QSs X E Et body tb) : QS X E Et (.While c body [] pos) (sWh tc tb) := PSimp (ps_while hp hc hb) (by
  rintro D σ H ⟨G, F0, M0, τ0, Dt, a0, en0, W, ⟨m0, w0⟩, turn⟩
  refine ⟨fun m σ H => ∃ F M τ, Same F0 F ∧ At X.K E Et G F H M σ τ ∧ W m τ M, ⟨m0, F0, M0, τ0, Same.refl _, a0, w0⟩, ?_⟩
  rintro m σ H ⟨F, M, τ, s, a, hw⟩
  have en := en0.mono s
  refine ⟨G, F, M, τ, _, a, turn m τ M hw, fun b F1 H1 M1 s1 r1 q1 => ?_⟩
  cases b with
  | true =>
    rw [if_pos rfl] at q1 ⊢
    refine ⟨fun σ' H' => ∃ m', m' < m ∧ ∃ F M τ, Same F0 F ∧ At X.K E Et G F H' M σ' τ ∧ W m' τ M, fun σ' H' z => z, G, F1, M1, τ, _, a.step s1 r1, ?_, q1⟩
    exact ⟨fun F' H' M' σ' τ' s2 a2 ⟨m', hm, w'⟩ => ⟨m', hm, F', M', τ', (s.trans s1).trans s2, a2, w'⟩, (en.mono s1).rt, fun F' H' M' σ' τ' s2 a2 q => (en.mono s1).nx F' H' M' σ' τ' s2 a2 q,
      fun F' H' M' σ' τ' s2 a2 ⟨m', hm, w'⟩ => ⟨m', hm, F', M', τ', (s.trans s1).trans s2, a2, w'⟩⟩
  | false =>
    rw [if_neg Bool.false_ne_true] at q1 ⊢
    exact en.nx F1 H1 M1 σ τ s1 (a.step s1 r1) q1)
end
/-- what is walked: its items, as long as src holds -/
structure Its where
  items : List D
  src : MH → Prop
abbrev TIt := Sg → MH → (Its → MH → Prop) → Prop
/-- J walks the items: at any state in which src holds -/
structure ItOk (K : PySem.W.Frag) (F0 : Hp) (J : It) (I : Its) : Prop where
  go : ∀ i G F H M x, Same F0 F → Rel K G F H M → I.src M → I.items[i]? = some x → J.go i H
  yld : ∀ i G F H M x v H', Same F0 F → Rel K G F H M → I.src M → I.items[i]? = some x → J.yld i H v H' → ∃ F', Same F F' ∧ Rel K G F' H' M ∧ Rp K F' v x
  stop : ∀ i G F H M, Same F0 F → Rel K G F H M → I.src M → I.items.length ≤ i → J.stop i H
def liftI (K : PySem.W.Frag) (E : XK) (Et : XT) (t : TIt) : TI := fun σ H R => ∃ G F M τ Qt, At K E Et G F H M σ τ ∧ t τ M Qt ∧ ∀ J I F' H' M', Same F F' → Rel K G F' H' M' → ItOk K F' J I → Qt I M' → R J H'
abbrev QI (X : Cx) (E : XK) (Et : XT) (tg iter : Expr) (t : TIt) : Prop := PI X tg iter (liftI X.K E Et t)
def sFo (ti : TIt) (g : TGt) (tb : TSt) : TSt := fun D τ M => ti τ M fun I M1 => ∃ W : Nat → Sg → MH → Prop, W 0 τ M1 ∧ (∀ i τ M, W i τ M → I.src M) ∧
  (∀ i x τ M, I.items[i]? = some x → W i τ M → g x τ M fun τ2 M2 => tb { D with nx := W (i + 1), ct := W (i + 1), bk := D.nx } τ2 M2) ∧ ∀ τ M, W I.items.length τ M → D.nx τ M
section
variable {X : Cx} {E : XK} {Et : XT} {pos : Pos}
theorem qs_for {tg iter : Expr} {body : List Stmt} {ti : TIt} {g : TGt} {tb : TSt} (hp : PassesOwn (model X.prog X.w) X.A X.env X.xe) (hc : X.calm = true) (hi : QI X E Et tg iter ti) (hg : QG X E Et tg g) (hb : QSs X E Et body tb)
    (hs : ∀ x, foldedSetIterable iter X.env x = pure x := by intro _; rfl) : QS X E Et (.For tg iter body [] pos) (sFo ti g tb) := PSimp (ps_for hp hc hi hg hb hs) (by
  rintro D σ H ⟨G, F0, M0, τ0, Dt, a0, en0, h⟩
  refine ⟨G, F0, M0, τ0, _, a0, h, fun J I F1 H1 M1 s1 r1 ok q1 => ?_⟩
  obtain ⟨W, w0, ws, turn, done⟩ := q1
  refine ⟨fun i m σ H => m = I.items.length - i ∧ i ≤ I.items.length ∧ ∃ F M τ, Same F1 F ∧ At X.K E Et G F H M σ τ ∧ W i τ M, ⟨I.items.length, by simp, Nat.zero_le _, F1, M1, τ0, Same.refl _, a0.step s1 r1, w0⟩, ?_⟩
  rintro i m σ H ⟨rfl, hi, F, M, τ, s, a, hw⟩
  have en := en0.mono (s1.trans s)
  by_cases hlt : i < I.items.length
  · have hx : I.items[i]? = some I.items[i] := List.getElem?_eq_getElem hlt
    refine .inr ⟨ok.go i G F H M _ s a.rel (ws i τ M hw) hx, fun σ' H' => I.items.length - (i + 1) < I.items.length - i ∧ ∃ F M τ, Same F1 F ∧ At X.K E Et G F H' M σ' τ ∧ W (i + 1) τ M, fun σ' H' z => ⟨_, z.1, rfl, hlt, z.2⟩, fun v H' y => ?_⟩
    obtain ⟨F2, s2, r2, p2⟩ := ok.yld i G F H M _ v H' s a.rel (ws i τ M hw) hx y
    have hm : I.items.length - (i + 1) < I.items.length - i := by omega
    refine ⟨G, F2, M, τ, _, _, a.step s2 r2, p2, turn i _ τ M hx hw, fun F3 H3 M3 σ3 τ3 s3 a3 q3 => ?_⟩
    refine ⟨G, F3, M3, τ3, _, a3, ?_, q3⟩
    exact ⟨fun F' H' M' σ' τ' s4 a4 w' => ⟨hm, F', M', τ', ((s.trans s2).trans s3).trans s4, a4, w'⟩, (en.mono (s2.trans s3)).rt, fun F' H' M' σ' τ' s4 a4 q => (en.mono (s2.trans s3)).nx F' H' M' σ' τ' s4 a4 q,
      fun F' H' M' σ' τ' s4 a4 w' => ⟨hm, F', M', τ', ((s.trans s2).trans s3).trans s4, a4, w'⟩⟩
  · have e : i = I.items.length := by omega
    subst e
    exact .inl ⟨ok.stop _ G F H M s a.rel (ws _ τ M hw) (Nat.le_refl _), en.nx F H M σ τ (Same.refl _) a (done τ M hw)⟩)
end
/-- the items of a list that stands, frozen or not -/
def lstOf (M : MH) : D → Option (List D)
  | .lst ds => some ds
  | .scr ds => some ds
  | .ref a => match M a with
    | some (.lst ds) => some ds
    | _ => none
  | _ => none
def tupOf : D → Option (List D)
  | .tup ds => some ds
  | .tab ds => some ds
  | _ => none
section
variable {K : PySem.W.Frag}
theorem lst_of {G F H : Hp} {M : MH} {v : V} {d : D} {ds : List D} (R : Rel K G F H M) (p : Rp K F v d) (e : lstOf M d = some ds) : ∃ a vs, v = .ref a ∧ SqL K H a vs ∧ Rps K F vs ds := by
  cases p with
  | lst h r =>
    cases e
    exact ⟨_, _, rfl, SqL.of (R.sub _ _ h), r⟩
  | scr h r =>
    cases e
    exact ⟨_, _, rfl, R.sub.seq h, r⟩
  | ref a =>
    unfold lstOf at e
    cases q : M a with
    | none => simp only [q] at e; cases e
    | some o =>
      simp only [q] at e
      obtain ⟨_, u, hu, r⟩ := R.chg a o q
      cases o with
      | lst xs =>
        cases e
        cases u with
        | lst vs => exact ⟨a, vs, rfl, SqL.of hu, r⟩
        | _ => exact (r : False).elim
      | _ => cases e
  | _ => cases e
theorem tup_of {G F H : Hp} {M : MH} {v : V} {d : D} {ds : List D} (R : Rel K G F H M) (p : Rp K F v d) (e : tupOf d = some ds) : ∃ a vs, v = .ref a ∧ SqT K H a vs ∧ Rps K F vs ds := by
  cases p with
  | tup h r =>
    cases e
    exact ⟨_, _, rfl, SqT.of (R.sub _ _ h), r⟩
  | tab h r =>
    cases e
    exact ⟨_, _, rfl, SameT R.sub h, r⟩
  | _ => cases e
end
/-- for x in xs -/
def iLs (te : TEt) : TIt := fun τ M Q => te τ M fun d M1 => match lstOf M1 d with
  | some ds => Q ⟨ds, fun M => lstOf M d = some ds⟩ M1
  | none => False
def iTu (te : TEt) : TIt := fun τ M Q => te τ M fun d M1 => match tupOf d with
  | some ds => Q ⟨ds, fun _ => True⟩ M1
  | none => False
def iR1 (ta : TAt) : TIt := fun τ M Q => ta τ M fun ds M1 => match ds with
  | [.int j] => (-(2 ^ 62) ≤ j ∧ j < 2 ^ 62) ∧ Q ⟨(List.range j.toNat).map fun i => .int (i : Nat), fun _ => True⟩ M1
  | _ => False
def iR2 (ta : TAt) : TIt := fun τ M Q => ta τ M fun ds M1 => match ds with
  | [.int i, .int j] => (-(2 ^ 62) ≤ i ∧ i < 2 ^ 62 ∧ -(2 ^ 62) ≤ j ∧ j < 2 ^ 62) ∧ Q ⟨(List.range (j - i).toNat).map fun k => .int (i + (k : Nat)), fun _ => True⟩ M1
  | _ => False
theorem SqL_get {K : PySem.W.Frag} {H : Hp} {a : Addr} {vs : List V} (h : SqL K H a vs) {i : Nat} {v x : V} (hx : vs[i]? = some x) (f : ∀ xs, SqL K H a xs → xs[i]? = some v) : v = x := Option.some.inj ((f _ h).symm.trans hx)
theorem SqT_get {K : PySem.W.Frag} {H : Hp} {a : Addr} {vs : List V} (h : SqT K H a vs) {i : Nat} {v x : V} (hx : vs[i]? = some x) (f : ∀ xs, SqT K H a xs → xs[i]? = some v) : v = x := Option.some.inj ((f _ h).symm.trans hx)
section
variable {X : Cx} {E : XK} {Et : XT} {pos : Pos} {tg e : Expr} {te : TEt}
theorem rp_ref {K : PySem.W.Frag} {F F' : Hp} {a : Addr} {d : D} (s : Same F F') (p : Rp K F (.ref a) d) : Rp K F' (.ref a) d := p.mono s
theorem itOk_list {K : PySem.W.Frag} {F0 : Hp} {a : Addr} {d : D} {ds : List D} (p : Rp K F0 (.ref a) d) : ItOk K F0 (Itl K a) ⟨ds, fun M => lstOf M d = some ds⟩ where
  go := fun i G F H M x s R h hx => by
    obtain ⟨b, vs, e, hs, r⟩ := lst_of R (p.mono s) h
    cases e
    obtain ⟨v, hv, _⟩ := r.getD hx
    exact ⟨vs, v, hs, hv⟩
  yld := fun i G F H M x v H' s R h hx y => by
    obtain ⟨b, vs, e, hs, r⟩ := lst_of R (p.mono s) h
    cases e
    obtain ⟨v', hv, rv⟩ := r.getD hx
    obtain ⟨rfl, f⟩ := y
    have := SqL_get hs hv f
    subst this
    exact ⟨F, Same.refl _, R, rv⟩
  stop := fun i G F H M s R h hl => by
    obtain ⟨b, vs, e, hs, r⟩ := lst_of R (p.mono s) h
    cases e
    exact ⟨vs, hs, by rw [r.length]; exact hl⟩
theorem itOk_tup {K : PySem.W.Frag} {F0 : Hp} {a : Addr} {d : D} {ds : List D} (p : Rp K F0 (.ref a) d) (h : tupOf d = some ds) : ItOk K F0 (Itt K a) ⟨ds, fun _ => True⟩ where
  go := fun i G F H M x s R _ hx => by
    obtain ⟨b, vs, e, hs, r⟩ := tup_of R (p.mono s) h
    cases e
    obtain ⟨v, hv, _⟩ := r.getD hx
    exact ⟨vs, v, hs, hv⟩
  yld := fun i G F H M x v H' s R _ hx y => by
    obtain ⟨b, vs, e, hs, r⟩ := tup_of R (p.mono s) h
    cases e
    obtain ⟨v', hv, rv⟩ := r.getD hx
    obtain ⟨rfl, f⟩ := y
    have := SqT_get hs hv f
    subst this
    exact ⟨F, Same.refl _, R, rv⟩
  stop := fun i G F H M s R _ hl => by
    obtain ⟨b, vs, e, hs, r⟩ := tup_of R (p.mono s) h
    cases e
    exact ⟨vs, hs, by rw [r.length]; exact hl⟩
theorem qi_list (he : QE X E Et e te) : QI X E Et tg e (iLs te) := by
  refine ⟨fun pins s σ H R I h => (pi_list he).run pins s σ H R I ?_⟩
  obtain ⟨G, F, M, τ, Qt, a, h, k⟩ := h
  refine ⟨G, F, M, τ, _, a, h, fun v F1 H1 M1 d s1 r1 p1 q1 => ?_⟩
  cases q : lstOf M1 d with
  | none => simp only [q] at q1
  | some ds =>
    simp only [q] at q1
    obtain ⟨b, vs, rfl, hs, r⟩ := lst_of r1 p1 q
    exact ⟨b, rfl, ⟨vs, hs⟩, k _ _ F1 H1 M1 s1 r1 (itOk_list p1) q1⟩
theorem qi_tup (he : QE X E Et e te) : QI X E Et tg e (iTu te) := by
  refine ⟨fun pins s σ H R I h => (pi_tup he).run pins s σ H R I ?_⟩
  obtain ⟨G, F, M, τ, Qt, a, h, k⟩ := h
  refine ⟨G, F, M, τ, _, a, h, fun v F1 H1 M1 d s1 r1 p1 q1 => ?_⟩
  cases q : tupOf d with
  | none => simp only [q] at q1
  | some ds =>
    simp only [q] at q1
    obtain ⟨b, vs, rfl, hs, r⟩ := tup_of r1 p1 q
    exact ⟨b, rfl, ⟨vs, hs⟩, k _ _ F1 H1 M1 s1 r1 (itOk_tup p1 q) q1⟩
theorem range_at {n i : Nat} {f : Nat → D} {x : D} (h : ((List.range n).map f)[i]? = some x) : i < n ∧ x = f i := by
  rw [List.getElem?_map] at h
  by_cases hi : i < n
  · rw [List.getElem?_range hi] at h
    exact ⟨hi, (Option.some.inj h).symm⟩
  · rw [List.getElem?_eq_none (by rw [List.length_range]; omega)] at h
    cases h
theorem itOk_range {K : PySem.W.Frag} {F0 : Hp} {lo : Int} {n : Nat} : ItOk K F0 (Itr lo n) ⟨(List.range n).map fun k => .int (lo + (k : Nat)), fun _ => True⟩ where
  go := fun i G F H M x s R _ hx => (range_at hx).1
  yld := fun i G F H M x v H' s R _ hx y => by
    obtain ⟨rfl, rfl⟩ := y
    obtain ⟨_, rfl⟩ := range_at hx
    exact ⟨F, Same.refl _, R, .int _⟩
  stop := fun i G F H M s R _ hl => by
    rw [List.length_map, List.length_range] at hl
    exact hl
theorem Rp.int_inv {K : PySem.W.Frag} {F : Hp} {v : V} {c : Int} (h : Rp K F v (.int c)) : v = .int c := by cases h; rfl
theorem Rp.str_inv {K : PySem.W.Frag} {F : Hp} {v : V} {c : Str} (h : Rp K F v (.str c)) : v = .str c := by cases h; rfl
theorem qi_range1 {a : Expr} {ta : TAt} {p : Pos} (hm : X.mg "range" = none) (ha : QA X E Et [a] ta) (hg : Gl X "range" := by rfl) (hs : starEach [a] X.env = [(false, eval a X.env)] := by rfl) : QI X E Et tg (.Call (.Name "range" p) [a] [] pos) (iR1 ta) := by
  refine ⟨fun pins s σ H R I h => (pi_range1 hg hm ha hs).run pins s σ H R I ?_⟩
  obtain ⟨G, F, M, τ, Qt, a, h, k⟩ := h
  refine ⟨G, F, M, τ, _, a, h, fun vs F1 H1 M1 ds s1 r1 p1 q1 => ?_⟩
  match ds, p1, q1 with
  | [.int j], .cons h1 .nil, q1 =>
    cases h1
    obtain ⟨⟨b1, b2⟩, q1⟩ := q1
    refine ⟨j, rfl, b1, b2, k _ _ F1 H1 M1 s1 r1 itOk_range ?_⟩
    simpa using q1
theorem qi_range2 {a b : Expr} {ta : TAt} {p : Pos} (hm : X.mg "range" = none) (ha : QA X E Et [a, b] ta) (hg : Gl X "range" := by rfl) (hs : starEach [a, b] X.env = [(false, eval a X.env), (false, eval b X.env)] := by rfl) (hs2 : starEach [b] X.env = [(false, eval b X.env)] := by rfl) : QI X E Et tg (.Call (.Name "range" p) [a, b] [] pos) (iR2 ta) := by
  refine ⟨fun pins s σ H R I h => (pi_range2 hg hm ha hs hs2).run pins s σ H R I ?_⟩
  obtain ⟨G, F, M, τ, Qt, a, h, k⟩ := h
  refine ⟨G, F, M, τ, _, a, h, fun vs F1 H1 M1 ds s1 r1 p1 q1 => ?_⟩
  match ds, p1, q1 with
  | [.int i, .int j], .cons h1 (.cons h2 .nil), q1 =>
    cases h1
    cases h2
    obtain ⟨b, q1⟩ := q1
    exact ⟨i, j, rfl, b, k _ _ F1 H1 M1 s1 r1 itOk_range q1⟩
end
end Tl

namespace Tl
open PySem PySem.Spec PyProof.Rows L2

/-! ### numbers -/
section
variable {K : PySem.W.Frag}
theorem lr2_int {C : Int → Int → Prop} {g : Int → Int → V} {gD : Int → Int → D} {r : R2t} (hg : ∀ F i j, Rp K F (g i j) (gD i j))
    (hr : ∀ x y M Q, r x y M Q → ∃ i j, x = .int i ∧ y = .int j ∧ C i j ∧ Q (gD i j) M) : ∀ x y H Q, lr2 K r x y H Q → rI C g x y H Q := by
  rintro x y H Q ⟨G, F, M, dx, dy, Qt, R, px, py, h, k⟩
  obtain ⟨i, j, rfl, rfl, c, q⟩ := hr dx dy M Qt h
  exact ⟨i, j, px.int_inv, py.int_inv, c, k _ F H M _ (Same.refl _) R (hg F i j) q⟩
theorem lr2_int0 {g : Int → Int → V} {gD : Int → Int → D} {r : R2t} (hg : ∀ F i j, Rp K F (g i j) (gD i j))
    (hr : ∀ x y M Q, r x y M Q → ∃ i j, x = .int i ∧ y = .int j ∧ Q (gD i j) M) : ∀ x y H Q, lr2 K r x y H Q → rI0 g x y H Q := by
  rintro x y H Q ⟨G, F, M, dx, dy, Qt, R, px, py, h, k⟩
  obtain ⟨i, j, rfl, rfl, q⟩ := hr dx dy M Qt h
  exact ⟨i, j, px.int_inv, py.int_inv, k _ F H M _ (Same.refl _) R (hg F i j) q⟩
end
/-- x op y on whole numbers -/
def bInt (C : Int → Int → Prop) (g : Int → Int → D) : R2t := fun x y M Q => match x, y with
  | .int i, .int j => C i j ∧ Q (g i j) M
  | _, _ => False
def bInt0 (g : Int → Int → D) : R2t := fun x y M Q => match x, y with
  | .int i, .int j => Q (g i j) M
  | _, _ => False
theorem bInt_inv {C : Int → Int → Prop} {g : Int → Int → D} : ∀ x y M Q, bInt C g x y M Q → ∃ i j, x = .int i ∧ y = .int j ∧ C i j ∧ Q (g i j) M := by
  intro x y M Q h
  cases x <;> cases y <;> first | exact ⟨_, _, rfl, rfl, h⟩ | exact (show False from h).elim
theorem bInt0_inv {g : Int → Int → D} : ∀ x y M Q, bInt0 g x y M Q → ∃ i j, x = .int i ∧ y = .int j ∧ Q (g i j) M := by
  intro x y M Q h
  cases x <;> cases y <;> first | exact ⟨_, _, rfl, rfl, h⟩ | exact (show False from h).elim
section
variable {X : Cx}
abbrev bSub : R2t := bInt0 fun i j => .int (i - j)
theorem oq_addI : OpQ X (binaryOp .Add) (bInt0 fun i j => .int (i + j)) := OpRimp op_add (lr2_int0 (fun _ _ _ => .int _) bInt0_inv)
theorem oq_sub : OpQ X (binaryOp .Sub) bSub := OpRimp op_sub (lr2_int0 (fun _ _ _ => .int _) bInt0_inv)
theorem oq_mul : OpQ X (binaryOp .Mult) (bInt CMulW fun i j => .int (i * j)) := OpRimp op_mulW (lr2_int (fun _ _ _ => .int _) bInt_inv)
theorem oq_fdiv : OpQ X (binaryOp .FloorDiv) (bInt CDivW fun i j => .int (i / j)) := OpRimp op_fdivW (lr2_int (fun _ _ _ => .int _) bInt_inv)
theorem oq_mod : OpQ X (binaryOp .Mod) (bInt (fun _ j => 0 < j) fun i j => .int (i % j)) := OpRimp op_mod (lr2_int (fun _ _ _ => .int _) bInt_inv)
theorem oq_modN : OpQ X (binaryOp .Mod) (bInt (fun _ j => j ≠ 0) fun i j => .int (i.fmod j)) := OpRimp op_modN (lr2_int (fun _ _ _ => .int _) bInt_inv)
theorem oq_fdivN : OpQ X (binaryOp .FloorDiv) (bInt CDivN fun i j => .int (i.fdiv j)) := OpRimp op_fdivN (lr2_int (fun _ _ _ => .int _) bInt_inv)
theorem oq_pow : OpQ X (binaryOp .Pow) (bInt CPow fun i j => .int (i ^ j.toNat)) := OpRimp op_pow (lr2_int (fun _ _ _ => .int _) bInt_inv)
theorem oq_shl : OpQ X (binaryOp .LShift) (bInt CPow fun i j => .int (i * 2 ^ j.toNat)) := OpRimp op_shl (lr2_int (fun _ _ _ => .int _) bInt_inv)
theorem oq_shr : OpQ X (binaryOp .RShift) (bInt (fun _ j => 0 ≤ j) fun i j => .int (i / 2 ^ j.toNat)) := OpRimp op_shr (lr2_int (fun _ _ _ => .int _) bInt_inv)
theorem oq_band : OpQ X (binaryOp .BitAnd) (bInt0 fun i j => .int (Builtin.bitAnd i j)) := OpRimp op_and (lr2_int0 (fun _ _ _ => .int _) bInt0_inv)
theorem oq_bor : OpQ X (binaryOp .BitOr) (bInt0 fun i j => .int (Builtin.bitOr i j)) := OpRimp op_or (lr2_int0 (fun _ _ _ => .int _) bInt0_inv)
theorem oq_bxor : OpQ X (binaryOp .BitXor) (bInt0 fun i j => .int (Builtin.bitXor i j)) := OpRimp op_xor (lr2_int0 (fun _ _ _ => .int _) bInt0_inv)
theorem oq_iaddI : OpQ X (inplaceOp .Add) (bInt0 fun i j => .int (i + j)) := OpRimp iop_add (lr2_int0 (fun _ _ _ => .int _) bInt0_inv)
theorem oq_isub : OpQ X (inplaceOp .Sub) bSub := OpRimp iop_sub (lr2_int0 (fun _ _ _ => .int _) bInt0_inv)
theorem oq_lt : OpQ X (compareOp .Lt) (bInt0 fun i j => .bl (decide (i < j))) := OpRimp op_lt (lr2_int0 (fun _ _ _ => .bl _) bInt0_inv)
theorem oq_le : OpQ X (compareOp .LtE) (bInt0 fun i j => .bl (decide (i ≤ j))) := OpRimp op_le (lr2_int0 (fun _ _ _ => .bl _) bInt0_inv)
theorem oq_gt : OpQ X (compareOp .Gt) (bInt0 fun i j => .bl (decide (j < i))) := OpRimp op_gt (lr2_int0 (fun _ _ _ => .bl _) bInt0_inv)
theorem oq_ge : OpQ X (compareOp .GtE) (bInt0 fun i j => .bl (decide (j ≤ i))) := OpRimp op_ge (lr2_int0 (fun _ _ _ => .bl _) bInt0_inv)
def uNeg : R1t := fun x M Q => match x with
  | .int i => Q (.int (-i)) M
  | _ => False
theorem uq_neg : UnQ X (unaryOp .USub) uNeg := UnRimp un_neg (by
  rintro x H Q ⟨G, F, M, dx, Qt, R, px, h, k⟩
  cases dx <;> first | exact (show False from h).elim | exact ⟨_, px.int_inv, k _ F H M _ (Same.refl _) R (.int _) h⟩)
end
/-! ### == and != of scalars -/
def dScal : D → D → Option Bool
  | .non, .non => some true
  | .int i, .int j => some (decide (i = j))
  | .str x, .str y => some (decide (x = y))
  | .bl x, .bl y => some (decide (x = y))
  | .non, .int _ => some false
  | .int _, .non => some false
  | .non, .str _ => some false
  | .str _, .non => some false
  | .non, .bl _ => some false
  | .bl _, .non => some false
  | .int _, .str _ => some false
  | .str _, .int _ => some false
  | _, _ => none
def bEq : R2t := fun x y M Q => match dScal x y with
  | some b => Q (.bl b) M
  | none => False
def bNe : R2t := fun x y M Q => match dScal x y with
  | some b => Q (.bl (!b)) M
  | none => False
theorem dScal_of {K : PySem.W.Frag} {F : Hp} {v w : V} {x y : D} {b : Bool} (px : Rp K F v x) (py : Rp K F w y) (e : dScal x y = some b) : scal v w = true ∧ decide (v = w) = b := by
  cases x <;> cases y <;> first
    | (cases e; done)
    | (cases px; cases py; cases e; exact ⟨rfl, by first | rfl | (congr 1; simp)⟩)
section
variable {X : Cx}
theorem oq_eq : OpQ X (compareOp .Eq) bEq := OpRimp op_eq (by
  rintro x y H Q ⟨G, F, M, dx, dy, Qt, R, px, py, h, k⟩
  unfold bEq at h
  cases e : dScal dx dy with
  | none => simp only [e] at h
  | some b =>
    simp only [e] at h
    obtain ⟨h1, h2⟩ := dScal_of px py e
    exact ⟨h1, k _ F H M _ (Same.refl _) R (by rw [h2]; exact .bl b) h⟩)
theorem oq_ne : OpQ X (compareOp .NotEq) bNe := OpRimp op_ne (by
  rintro x y H Q ⟨G, F, M, dx, dy, Qt, R, px, py, h, k⟩
  unfold bNe at h
  cases e : dScal dx dy with
  | none => simp only [e] at h
  | some b =>
    simp only [e] at h
    obtain ⟨h1, h2⟩ := dScal_of px py e
    exact ⟨h1, k _ F H M _ (Same.refl _) R (by rw [h2]; exact .bl _) h⟩)
def isNonD : D → Bool
  | .non => true
  | _ => false
theorem isNonD_of {K : PySem.W.Frag} {F : Hp} {v : V} {x : D} (px : Rp K F v x) : decide (v = .non) = isNonD x := by
  cases px <;> rfl
def bIsN : R2t := fun x y M Q => match y with
  | .non => Q (.bl (isNonD x)) M
  | _ => False
def bNotN : R2t := fun x y M Q => match y with
  | .non => Q (.bl (!isNonD x)) M
  | _ => False
theorem oq_isN : OpQ X (compareOp .Is) bIsN := OpRimp op_isN (by
  rintro x y H Q ⟨G, F, M, dx, dy, Qt, R, px, py, h, k⟩
  cases py <;> first | exact (show False from h).elim | exact ⟨rfl, k _ F H M _ (Same.refl _) R (by rw [isNonD_of px]; exact .bl _) h⟩)
theorem oq_notN : OpQ X (compareOp .IsNot) bNotN := OpRimp op_notN (by
  rintro x y H Q ⟨G, F, M, dx, dy, Qt, R, px, py, h, k⟩
  cases py <;> first | exact (show False from h).elim | exact ⟨rfl, k _ F H M _ (Same.refl _) R (by rw [isNonD_of px]; exact .bl _) h⟩)
end
/-! ### texts, lists, tuples joined -/
def bCatS : R2t := fun x y M Q => match x, y with
  | .str a, .str b => a.length + b.length ≤ sizeLine ∧ Q (.str (a ++ b)) M
  | _, _ => False
/-- a new frozen list -/
def bCatL : R2t := fun x y M Q => match lstOf M x, lstOf M y with
  | some a, some b => a.length + b.length ≤ sizeLine ∧ Q (.lst (a ++ b)) M
  | _, _ => False
/-- a new changing list -/
def bCatM : R2t := fun x y M Q => match lstOf M x, lstOf M y with
  | some a, some b => a.length + b.length ≤ sizeLine ∧ ∀ p, M p = none → Q (.ref p) (mup M p (.lst (a ++ b)))
  | _, _ => False
section
variable {X : Cx}
/-- list + list, frozen ones too -/
def rCatR (K : PySem.W.Frag) : R2 := fun x y H Q => ∃ l b xs zs, x = .ref l ∧ y = .ref b ∧ SqL K H l xs ∧ SqL K H b zs ∧ xs.length + zs.length ≤ sizeLine ∧ ∀ p, H p = none → Q (.ref p) (upd H p (.lst (xs ++ zs)))
theorem op_catR : OpR X (binaryOp .Add) (rCatR X.K) := by
  intro pins s σ H x y v u Q I rx ry h
  obtain ⟨l, b, xs, zs, rfl, rfl, hH, hB, hz, q⟩ := h
  cases rx
  cases ry
  obtain ⟨its, r, ⟨⟨cls, dd, data, sl⟩, n, ho, hc, hdd, hd⟩, z⟩ := I.list hH
  obtain ⟨its2, r2, ⟨⟨cls2, dd2, data2, sl2⟩, n2, ho2, hc2, hdd2, hd2⟩, z2⟩ := I.list hB
  simp only at hc hd hc2 hd2
  subst hc hd hc2 hd2
  have e1 := r.length
  have e2 := r2.length
  refine PySem.concat_meets ⟨_, ho, rfl⟩ ⟨_, ho2, rfl⟩ PySem.noFill_list_add PySem.seq_list_add PySem.F.slot_list_add PySem.F.entry_list_add (PySem.F.args_list_add_2 _ _) (PyProof.Rows.list_addW l b its.toArray its2.toArray n n2 dd dd2 sl sl2 (by rw [List.size_toArray, List.size_toArray]; omega)) ⟨ho, ho2, ?_⟩
  have ea : its.toArray ++ its2.toArray = (its ++ its2).toArray := by simp
  rw [ea]
  exact ⟨.ref _, _, I.lnew (t' := s.toks) (r.append r2) (by rw [List.length_append]; omega), rfl, q _ I.fresh⟩
theorem oq_addS : OpQ X (binaryOp .Add) bCatS := OpRimp op_add_str (by
  rintro x y H Q ⟨G, F, M, dx, dy, Qt, R, px, py, h, k⟩
  cases px <;> first
    | exact (show False from h).elim
    | (cases py <;> first | exact (show False from h).elim | exact ⟨_, _, rfl, rfl, h.1, k _ F H M _ (Same.refl _) R (.str _) h.2⟩))
end
section
variable {K : PySem.W.Frag}
theorem lst_two {r : R2t} {G F H : Hp} {M : MH} {x y : V} {dx dy : D} (R : Rel K G F H M) (px : Rp K F x dx) (py : Rp K F y dy) {a b : List D} (e1 : lstOf M dx = some a) (e2 : lstOf M dy = some b) :
    ∃ l m xs zs, x = .ref l ∧ y = .ref m ∧ SqL K H l xs ∧ SqL K H m zs ∧ Rps K F xs a ∧ Rps K F zs b := by
  obtain ⟨l, xs, h1, h2, h3⟩ := lst_of R px e1
  obtain ⟨m, zs, h4, h5, h6⟩ := lst_of R py e2
  exact ⟨l, m, xs, zs, h1, h4, h2, h5, h3, h6⟩
end
section
variable {X : Cx}
theorem oq_catL : OpQ X (binaryOp .Add) bCatL := OpRimp op_catR (by
  rintro x y H Q ⟨G, F, M, dx, dy, Qt, R, px, py, h, k⟩
  unfold bCatL at h
  cases e1 : lstOf M dx with
  | none => simp only [e1] at h
  | some a =>
    cases e2 : lstOf M dy with
    | none => simp only [e1, e2] at h
    | some b =>
      simp only [e1, e2] at h
      obtain ⟨l, m, xs, zs, rfl, rfl, h2, h5, h3, h6⟩ := lst_two (r := bCatL) R px py e1 e2
      refine ⟨l, m, xs, zs, rfl, rfl, h2, h5, by rw [h3.length, h6.length]; exact h.1, fun p np => ?_⟩
      obtain ⟨s, r⟩ := R.newF (o := .lst (xs ++ zs)) np
      exact k _ _ _ M _ s r (.lst upd_same ((h3.append h6).mono s)) h.2)
theorem oq_catM : OpQ X (binaryOp .Add) bCatM := OpRimp op_catR (by
  rintro x y H Q ⟨G, F, M, dx, dy, Qt, R, px, py, h, k⟩
  unfold bCatM at h
  cases e1 : lstOf M dx with
  | none => simp only [e1] at h
  | some a =>
    cases e2 : lstOf M dy with
    | none => simp only [e1, e2] at h
    | some b =>
      simp only [e1, e2] at h
      obtain ⟨l, m, xs, zs, rfl, rfl, h2, h5, h3, h6⟩ := lst_two (r := bCatM) R px py e1 e2
      refine ⟨l, m, xs, zs, rfl, rfl, h2, h5, by rw [h3.length, h6.length]; exact h.1, fun p np => ?_⟩
      exact k _ _ _ _ _ (Same.refl _) (R.newM (u := .lst (xs ++ zs)) (o := .lst (a ++ b)) np (h3.append h6)) (.ref p) (h.2 p (R.free np).2))
end
/-! ### displays -/
/-- (a, b) -/
def tTu (t : TAt) : TEt := fun τ M Q => t τ M fun ds M1 => ds.length ≤ sizeLine ∧ Q (.tup ds) M1
/-- [a, b]: it stays as it is -/
def tLi (t : TAt) : TEt := fun τ M Q => t τ M fun ds M1 => ds.length ≤ sizeLine ∧ Q (.lst ds) M1
/-- [a, b]: it may change -/
def tLm (t : TAt) : TEt := fun τ M Q => t τ M fun ds M1 => ds.length ≤ sizeLine ∧ ∀ p, M1 p = none → Q (.ref p) (mup M1 p (.lst ds))
section
variable {X : Cx} {E : XK} {Et : XT} {es : List Expr} {t : TAt} {pos : Pos}
theorem q_tup {x1} (h : QA X E Et es t) : QE X E Et (.Tuple es x1 pos) (tTu t) := PEimp (pe_tup h) (by
  rintro σ H Q ⟨G, F, M, τ, Qt, a, h, k⟩
  refine ⟨G, F, M, τ, _, a, h, fun vs F1 H1 M1 ds s1 r1 p1 q1 => ⟨by rw [p1.length]; exact q1.1, fun p np => ?_⟩⟩
  obtain ⟨s, r⟩ := r1.newF (o := .tup vs) np
  exact k _ _ _ M1 _ (s1.trans s) r (.tup upd_same (p1.mono s)) q1.2)
theorem q_lst (h : QA X E Et es t) : QE X E Et (.List es pos) (tLi t) := PEimp (pe_lst h) (by
  rintro σ H Q ⟨G, F, M, τ, Qt, a, h, k⟩
  refine ⟨G, F, M, τ, _, a, h, fun vs F1 H1 M1 ds s1 r1 p1 q1 => ⟨by rw [p1.length]; exact q1.1, fun p np => ?_⟩⟩
  obtain ⟨s, r⟩ := r1.newF (o := .lst vs) np
  exact k _ _ _ M1 _ (s1.trans s) r (.lst upd_same (p1.mono s)) q1.2)
theorem q_lstM (h : QA X E Et es t) : QE X E Et (.List es pos) (tLm t) := PEimp (pe_lst h) (by
  rintro σ H Q ⟨G, F, M, τ, Qt, a, h, k⟩
  refine ⟨G, F, M, τ, _, a, h, fun vs F1 H1 M1 ds s1 r1 p1 q1 => ⟨by rw [p1.length]; exact q1.1, fun p np => ?_⟩⟩
  exact k _ _ _ _ _ s1 (r1.newM (u := .lst vs) (o := .lst ds) np p1) (.ref p) (q1.2 p (r1.free np).2))
end
/-! ### what is as it was, told otherwise -/
/-- at M the value d may as well be told as d' at M' -/
def ReR (K : PySem.W.Frag) (d : D) (M : MH) (d' : D) (M' : MH) : Prop := ∀ G F H v, Rel K G F H M → Rp K F v d → ∃ F', Same F F' ∧ Rel K G F' H M' ∧ Rp K F' v d'
def tRe (K : PySem.W.Frag) (t : TEt) : TEt := fun τ M Q => t τ M fun d M1 => ∃ d' M2, ReR K d M1 d' M2 ∧ Q d' M2
section
variable {K : PySem.W.Frag}
theorem ReR.refl {d : D} {M : MH} : ReR K d M d M := fun G F H v R p => ⟨F, Same.refl _, R, p⟩
theorem ReR.trans {d d1 d2 : D} {M M1 M2 : MH} (a : ReR K d M d1 M1) (b : ReR K d1 M1 d2 M2) : ReR K d M d2 M2 := fun G F H v R p => by
  obtain ⟨F1, s1, R1, p1⟩ := a G F H v R p
  obtain ⟨F2, s2, R2, p2⟩ := b G F1 H v R1 p1
  exact ⟨F2, s1.trans s2, R2, p2⟩
theorem ReR.drop {d : D} {M M' : MH} (h : ∀ a o, M' a = some o → M a = some o) : ReR K d M d M' := fun G F H v R p => ⟨F, Same.refl _, R.drop h, p⟩
theorem ReR.freeze {a : Addr} {ds : List D} {M : MH} (h : M a = some (.lst ds)) : ReR K (.ref a) M (.lst ds) (mdel M a) := fun G F H v R p => by
  obtain ⟨F', s, R', r⟩ := R.freeze h
  cases p
  exact ⟨F', s, R', r⟩
/-- the commonest: a list made here is handed back -/
theorem ReR.made {a : Addr} {ds : List D} {M : MH} (h : M a = none) : ReR K (.ref a) (mup M a (.lst ds)) (.lst ds) M := by
  have := ReR.freeze (K := K) (a := a) (ds := ds) (M := mup M a (.lst ds)) mup_same
  rw [mdel_mup h] at this
  exact this
/-- any other value, while a list is frozen -/
theorem ReR.other {d : D} {a : Addr} {ds : List D} {M : MH} (h : M a = some (.lst ds)) : ReR K d M d (mdel M a) := fun G F H v R p => by
  obtain ⟨F', s, R', r⟩ := R.freeze h
  exact ⟨F', s, R', p.mono s⟩
end
section
variable {X : Cx} {E : XK} {Et : XT} {e : Expr} {t : TEt}
theorem q_re (h : QE X E Et e t) : QE X E Et e (tRe X.K t) := PEimp h (by
  rintro σ H Q ⟨G, F, M, τ, Qt, a, h, k⟩
  refine ⟨G, F, M, τ, _, a, h, fun v F1 H1 M1 d s1 r1 p1 ⟨d', M2, re, q⟩ => ?_⟩
  obtain ⟨F', s, R', p'⟩ := re G F1 H1 v r1 p1
  exact k v F' H1 M2 d' (s1.trans s) R' p' q)
end
/-- the same of all slots -/
def ReS (K : PySem.W.Frag) (τ : Sg) (M : MH) (τ' : Sg) (M' : MH) : Prop := ∀ G F H σ, Rel K G F H M → Sgr K F σ τ → ∃ F', Same F F' ∧ Rel K G F' H M' ∧ Sgr K F' σ τ'
def sRe (K : PySem.W.Frag) (u : TSt) : TSt := fun D τ M => ∃ τ' M', ReS K τ M τ' M' ∧ u D τ' M'
section
variable {X : Cx} {E : XK} {Et : XT} {sts : List Stmt} {u : TSt}
theorem qss_re (h : QSs X E Et sts u) : QSs X E Et sts (sRe X.K u) := PSsimp h (by
  rintro D σ H ⟨G, F, M, τ, Dt, a, en, τ', M', re, h⟩
  obtain ⟨F', s, R', sg⟩ := re G F H σ a.rel a.sg
  exact ⟨G, F', M', τ', Dt, ⟨R', sg, a.el.mono s⟩, en.mono s, h⟩)
theorem nth_at : ∀ {t : Sg} {i : Nat} {d : D}, t[i]? = some (some d) → nth t i = some d
  | [], _, _, h => by simp at h
  | x :: _, 0, d, h => by
    have h : some x = some (some d) := h
    exact Option.some.inj h
  | _ :: t, n + 1, d, h => by
    rw [List.getElem?_cons_succ] at h
    exact nth_at (t := t) h
/-- slot i's list is frozen -/
theorem ReS.freeze {K : PySem.W.Frag} {τ : Sg} {M : MH} {i : Nat} {a : Addr} {ds : List D} (h : nth τ i = some (.ref a)) (hm : M a = some (.lst ds)) : ReS K τ M (τ.set i (some (.lst ds))) (mdel M a) := fun G F H σ R sg => by
  obtain ⟨F', s, R', r⟩ := R.freeze hm
  refine ⟨F', s, R', ?_⟩
  have g := sg.mono s
  obtain ⟨v, h1, h2⟩ := g.2 i _ (nth_get h)
  cases h2
  have e : σ = σ.set i (some (.ref a)) := by
    apply List.ext_getElem?
    intro j
    by_cases hij : i = j
    · subst hij
      rw [h1, List.getElem?_set_self (List.getElem?_eq_some_iff.mp h1).1]
    · rw [List.getElem?_set_ne hij]
  rw [e]
  exact g.set r
theorem ReS.drop {K : PySem.W.Frag} {τ : Sg} {M M' : MH} (h : ∀ a o, M' a = some o → M a = some o) : ReS K τ M τ M' := fun G F H σ R sg => ⟨F, Same.refl _, R.drop h, sg⟩
theorem ReS.refl {K : PySem.W.Frag} {τ : Sg} {M : MH} : ReS K τ M τ M := fun G F H σ R sg => ⟨F, Same.refl _, R, sg⟩
theorem ReS.trans {K : PySem.W.Frag} {τ τ1 τ2 : Sg} {M M1 M2 : MH} (a : ReS K τ M τ1 M1) (b : ReS K τ1 M1 τ2 M2) : ReS K τ M τ2 M2 := fun G F H v R p => by
  obtain ⟨F1, s1, R1, p1⟩ := a G F H v R p
  obtain ⟨F2, s2, R2, p2⟩ := b G F1 H v R1 p1
  exact ⟨F2, s1.trans s2, R2, p2⟩
end
/-! ### items -/
/-- x[i]: of a tuple, a list, a text -/
def bIx : R2t := fun x y M Q => match y with
  | .int i => match x with
    | .str z => z.length ≤ sizeLine ∧ match atI z.cps.toList i with
      | some c => Q (.str ⟨#[c]⟩) M
      | none => False
    | .tup ds => match atI ds i with
      | some d => Q d M
      | none => False
    | .tab ds => match atI ds i with
      | some d => Q d M
      | none => False
    | x => match lstOf M x with
      | some ds => match atI ds i with
        | some d => Q d M
        | none => False
      | none => False
  | _ => False
theorem Rps.at {K : PySem.W.Frag} {F : Hp} {vs : List V} {ds : List D} {i : Int} {d : D} (r : Rps K F vs ds) (h : atI ds i = some d) : ∃ v, atI vs i = some v ∧ Rp K F v d := by
  unfold atI at h ⊢
  rw [r.length]
  cases e : ixN ds.length i with
  | none => rw [e] at h; cases h
  | some j =>
    rw [e] at h
    exact r.getD (i := j) h
section
variable {X : Cx} {E : XK} {Et : XT} {a b : Expr} {ta tb : TEt} {pos : Pos}
theorem ixq : ∀ x y H Q, lr2 X.K bIx x y H Q → rIx X.K x y H Q := by
  rintro x y H Q ⟨G, F, M, dx, dy, Qt, R, px, py, h, k⟩
  cases py with
  | int i =>
    cases px with
    | str z =>
      obtain ⟨h1, h2⟩ := (show _ ∧ _ from h)
      cases e : atI z.cps.toList i with
      | none => rw [e] at h2; exact h2.elim
      | some c =>
        rw [e] at h2
        exact .inr (.inr ⟨z, i, c, rfl, rfl, h1, e, k _ F H M _ (Same.refl _) R (.str _) h2⟩)
    | @tup aa vs ds h0 r0 =>
      have h2 : (match atI ds i with | some d => Qt d M | none => False) := h
      cases e : atI ds i with
      | none => rw [e] at h2; exact h2.elim
      | some c =>
        rw [e] at h2
        obtain ⟨v, hv, rv⟩ := r0.at e
        exact .inr (.inl ⟨aa, vs, i, v, rfl, rfl, SqT.of (R.sub _ _ h0), hv, k _ F H M _ (Same.refl _) R rv h2⟩)
    | @tab aa vs ds h0 r0 =>
      have h2 : (match atI ds i with | some d => Qt d M | none => False) := h
      cases e : atI ds i with
      | none => rw [e] at h2; exact h2.elim
      | some c =>
        rw [e] at h2
        obtain ⟨v, hv, rv⟩ := r0.at e
        exact .inr (.inl ⟨aa, vs, i, v, rfl, rfl, SameT R.sub h0, hv, k _ F H M _ (Same.refl _) R rv h2⟩)
    | @lst aa vs ds h0 r0 =>
      have h2 : (match atI ds i with | some d => Qt d M | none => False) := h
      cases e : atI ds i with
      | none => rw [e] at h2; exact h2.elim
      | some c =>
        rw [e] at h2
        obtain ⟨v, hv, rv⟩ := r0.at e
        exact .inl ⟨aa, vs, i, v, rfl, rfl, SqL.of (R.sub _ _ h0), hv, k _ F H M _ (Same.refl _) R rv h2⟩
    | @scr aa vs ds h0 r0 =>
      have h2 : (match atI ds i with | some d => Qt d M | none => False) := h
      cases e : atI ds i with
      | none => rw [e] at h2; exact h2.elim
      | some c =>
        rw [e] at h2
        obtain ⟨v, hv, rv⟩ := r0.at e
        exact .inl ⟨aa, vs, i, v, rfl, rfl, R.sub.seq h0, hv, k _ F H M _ (Same.refl _) R rv h2⟩
    | ref aa =>
      have h2 : (match lstOf M (.ref aa) with | some ds => (match atI ds i with | some d => Qt d M | none => False) | none => False) := h
      cases q : lstOf M (.ref aa) with
      | none => rw [q] at h2; exact h2.elim
      | some ds =>
        rw [q] at h2
        obtain ⟨b, vs, eb, hs, r⟩ := lst_of R (.ref aa) q
        cases eb
        have h2 : (match atI ds i with | some d => Qt d M | none => False) := h2
        cases e : atI ds i with
        | none => rw [e] at h2; exact h2.elim
        | some c =>
          rw [e] at h2
          obtain ⟨v, hv, rv⟩ := r.at e
          exact .inl ⟨aa, vs, i, v, rfl, rfl, hs, hv, k _ F H M _ (Same.refl _) R rv h2⟩
    | _ => exact (show False from h).elim
  | _ => exact (show False from h).elim
theorem q_ix (ha : QE X E Et a ta) (hb : QE X E Et b tb) (hs : PlainIx b := by exact fun _ _ => rfl) : QE X E Et (.Subscript a b pos) (tO bIx ta tb) := PEimp (pe_ix ix_seq ha hb hs) (fun σ H Q h => by
  have := lv_op _ _ _ h
  obtain ⟨G, F, M, τ, Qt, a, h, k⟩ := this
  refine ⟨G, F, M, τ, Qt, a, h, fun v F' H' M' d s r p q => ?_⟩
  obtain ⟨G, F2, M2, τ2, Q2, a2, h2, k2⟩ := k v F' H' M' d s r p q
  exact ⟨G, F2, M2, τ2, Q2, a2, h2, fun v2 F3 H3 M3 d2 s2 r2 p2 q2 => ixq _ _ _ _ (k2 v2 F3 H3 M3 d2 s2 r2 p2 q2)⟩)
end
/-! ### slices -/
abbrev TOt := Sg → MH → (Option Int → MH → Prop) → Prop
def liftO (K : PySem.W.Frag) (E : XK) (Et : XT) (t : TOt) : TO := fun σ H Q => ∃ G F M τ Qt, At K E Et G F H M σ τ ∧ t τ M Qt ∧ ∀ b F' H' M', Same F F' → Rel K G F' H' M' → Qt b M' → Q b H'
abbrev QO (X : Cx) (E : XK) (Et : XT) (e : Option Expr) (t : TOt) : Prop := PO X e (liftO X.K E Et t)
def oNo : TOt := fun _ M Q => Q none M
def oYes (t : TEt) : TOt := fun τ M Q => t τ M fun d M1 => match d with
  | .int i => Q (some i) M1
  | _ => False
def cutD (xs : List D) (lo hi : Option Int) : List D := (xs.drop (HT.sIx xs.length 0 lo)).take (HT.sIx xs.length xs.length hi - HT.sIx xs.length 0 lo)
def tSc (r : D → Option Int → Option Int → MH → VD → Prop) (te : TEt) (tl th : TOt) : TEt := fun τ M Q => te τ M fun x M1 => tl τ M1 fun l M2 => th τ M2 fun u M3 => r x l u M3 Q
/-- of a list: a new frozen one -/
def cSlL : D → Option Int → Option Int → MH → VD → Prop := fun x lo hi M Q => match lstOf M x with
  | some ds => Q (.lst (cutD ds lo hi)) M
  | none => False
def cSlM : D → Option Int → Option Int → MH → VD → Prop := fun x lo hi M Q => match lstOf M x with
  | some ds => ∀ p, M p = none → Q (.ref p) (mup M p (.lst (cutD ds lo hi)))
  | none => False
def cSlS : D → Option Int → Option Int → MH → VD → Prop := fun x lo hi M Q => match x with
  | .str z => z.length ≤ sizeLine ∧ Q (.str (cutS z lo hi)) M
  | _ => False
theorem Rps.cut {K : PySem.W.Frag} {F : Hp} {vs : List V} {ds : List D} {lo hi : Option Int} (r : Rps K F vs ds) : Rps K F (cutV vs lo hi) (cutD ds lo hi) := by
  unfold cutV cutD
  rw [r.length]
  exact (r.drop _).take _
section
variable {X : Cx} {E : XK} {Et : XT} {e : Expr} {te : TEt} {lo hi : Option Expr} {tl th : TOt} {pos p2 : Pos}
theorem qo_none : QO X E Et none oNo := ⟨fun pins s σ H Q I h => po_none.run pins s σ H Q I (by
  obtain ⟨G, F, M, τ, Qt, a, h, k⟩ := h
  exact k none F H M (Same.refl _) a.rel h)⟩
theorem qo_some (h : QE X E Et e te) : QO X E Et (some e) (oYes te) := ⟨fun pins s σ H Q I w => (po_some h).run pins s σ H Q I (by
  obtain ⟨G, F, M, τ, Qt, a, w, k⟩ := w
  refine ⟨G, F, M, τ, _, a, w, fun v F1 H1 M1 d s1 r1 p1 q1 => ?_⟩
  cases p1 <;> first | exact (show False from q1).elim | exact ⟨_, rfl, k _ F1 H1 M1 s1 r1 q1⟩)⟩
def lSl (K : PySem.W.Frag) (r : D → Option Int → Option Int → MH → VD → Prop) : V → Option Int → Option Int → Hp → VK → Prop := fun x lo hi H Q => ∃ G F M dx Qt, Rel K G F H M ∧ Rp K F x dx ∧ r dx lo hi M Qt ∧ ∀ v F' H' M' d, Same F F' → Rel K G F' H' M' → Rp K F' v d → Qt d M' → Q v H'
theorem q_slice {r : D → Option Int → Option Int → MH → VD → Prop} {rr : V → Option Int → Option Int → Hp → VK → Prop} (hr : SlR X rr) (hi0 : ∀ x lo hi H Q, lSl X.K r x lo hi H Q → rr x lo hi H Q) (he : QE X E Et e te) (hl : QO X E Et lo tl) (hu : QO X E Et hi th) :
    QE X E Et (.Subscript e (.Slice lo hi none p2) pos) (tSc r te tl th) := PEimp (pe_slice hr he hl hu) (by
  rintro σ H Q ⟨G, F, M, τ, Qt, a, h, k⟩
  refine ⟨G, F, M, τ, _, a, h, fun v F1 H1 M1 d s1 r1 p1 q1 => ?_⟩
  refine ⟨G, F1, M1, τ, _, a.step s1 r1, q1, fun l F2 H2 M2 s2 r2 q2 => ?_⟩
  refine ⟨G, F2, M2, τ, _, a.step (s1.trans s2) r2, q2, fun u F3 H3 M3 s3 r3 q3 => hi0 _ _ _ _ _ ?_⟩
  exact ⟨G, F3, M3, d, Qt, r3, p1.mono (s2.trans s3), q3, fun v F' H' M' d s => k v F' H' M' d (((s1.trans s2).trans s3).trans s)⟩)
theorem q_sliceL (he : QE X E Et e te) (hl : QO X E Et lo tl) (hu : QO X E Et hi th) : QE X E Et (.Subscript e (.Slice lo hi none p2) pos) (tSc cSlL te tl th) := q_slice sl_list (by
  rintro x lo hi H Q ⟨G, F, M, dx, Qt, R, p, h, k⟩
  unfold cSlL at h
  cases q : lstOf M dx with
  | none => simp only [q] at h
  | some ds =>
    simp only [q] at h
    obtain ⟨b, vs, rfl, hs, r⟩ := lst_of R p q
    refine ⟨b, vs, rfl, hs, fun p np => ?_⟩
    obtain ⟨s, r1⟩ := R.newF (o := .lst (cutV vs lo hi)) np
    exact k _ _ _ M _ s r1 (.lst upd_same (r.cut.mono s)) h) he hl hu
theorem q_sliceM (he : QE X E Et e te) (hl : QO X E Et lo tl) (hu : QO X E Et hi th) : QE X E Et (.Subscript e (.Slice lo hi none p2) pos) (tSc cSlM te tl th) := q_slice sl_list (by
  rintro x lo hi H Q ⟨G, F, M, dx, Qt, R, p, h, k⟩
  unfold cSlM at h
  cases q : lstOf M dx with
  | none => simp only [q] at h
  | some ds =>
    simp only [q] at h
    obtain ⟨b, vs, rfl, hs, r⟩ := lst_of R p q
    refine ⟨b, vs, rfl, hs, fun p np => ?_⟩
    exact k _ _ _ _ _ (Same.refl _) (R.newM (u := .lst (cutV vs lo hi)) (o := .lst (cutD ds lo hi)) np r.cut) (.ref p) (h p (R.free np).2)) he hl hu
theorem q_sliceS (he : QE X E Et e te) (hl : QO X E Et lo tl) (hu : QO X E Et hi th) : QE X E Et (.Subscript e (.Slice lo hi none p2) pos) (tSc cSlS te tl th) := q_slice sl_str (by
  rintro x lo hi H Q ⟨G, F, M, dx, Qt, R, p, h, k⟩
  cases p <;> first | exact (show False from h).elim | exact ⟨_, rfl, h.1, k _ F H M _ (Same.refl _) R (.str _) h.2⟩) he hl hu
end
end Tl

namespace Tl
open PySem PySem.Spec PyProof.Rows L2

/-! ### a def of the text -/
def begin_ (N : List Str) (ds : List D) : Sg := ds.map some ++ List.replicate (N.length - ds.length) none
theorem sg_start {K : PySem.W.Frag} {F : Hp} {N : List Str} {vs : List V} {ds : List D} (r : Rps K F vs ds) : Sgr K F (L2.start N vs) (begin_ N ds) := by
  refine ⟨by unfold L2.start begin_; rw [List.length_append, List.length_append, List.length_map, List.length_map, List.length_replicate, List.length_replicate, r.length], fun i d e => ?_⟩
  unfold begin_ at e
  unfold L2.start
  by_cases hi : i < ds.length
  · rw [List.getElem?_append_left (by rw [List.length_map]; exact hi), List.getElem?_map] at e
    rw [List.getElem?_append_left (by rw [List.length_map, r.length]; exact hi), List.getElem?_map]
    cases q : ds[i]? with
    | none => rw [q] at e; cases e
    | some x =>
      rw [q] at e
      have ex : x = d := Option.some.inj (Option.some.inj e)
      subst ex
      obtain ⟨v, h1, h2⟩ := r.getD q
      exact ⟨v, by rw [h1]; rfl, h2⟩
  · rw [List.getElem?_append_right (by rw [List.length_map]; omega)] at e
    have := List.mem_of_getElem? e
    rw [List.mem_replicate] at this
    exact absurd this.2 (by simp)
section
variable {P : Program} {w : World} {K : PySem.W.Frag} {mg : Str → Option Value} {base : Heap} {x qual : Str} {params : Arguments} {body : List Stmt} {scope : Scope} {f : Addr} {fd : FuncData} {N ps : List Str} {k : Nat} {sp : SpT}
/-- a def that raises nothing -/
theorem fn_ok (F : He.DefD) (fd : FuncData) (hF : FunD K F.name F.qual F.params F.body F.scope [] [] f fd) (S : FnScope N ps F.scope) (len : ∀ ds M Q Et, sp ds M Q Et → ds.length = ps.length)
    (hb : ∀ (cdv : Value) (A : Around) (outer : List Env) (s : Shared) (H : Hp) (E : XK), Room k (A.deeper (envOfC F.qual F.scope s.heap.objs.size f cdv)) →
      ∃ t, QSs (cxOf CX0 P w K mg base N F.qual F.scope f cdv A outer s H E).nox E0 Et0 F.body t ∧ ∀ ds M Q Et, sp ds M Q Et → t { nx := fun _ M' => Q .non M', rt := Q } (begin_ N ds) M) : FnOk P w K mg base CX0 (k + 1) f fd ps (lSp K sp) := by
  refine hF.ok S (fun vs H Q E h => ?_) fun cdv A outer s H vs Q E hr h => ?_
  · obtain ⟨G, F, M, ds, Qt, Et, R, r, _, h, _⟩ := h
    rw [r.length]
    exact len _ _ _ _ h
  · obtain ⟨t, ht, hw⟩ := hb cdv A outer s H E hr
    obtain ⟨G, F, M, ds, Qt, Et, R, r, el, h, kk⟩ := h
    refine ⟨_, PSs.nox ht, G, F, M, begin_ N ds, { nx := fun _ M' => Qt .non M', rt := Qt }, ⟨R, sg_start r, .never⟩, ?_, hw ds M Qt Et h⟩
    exact ⟨fun F' H' M' σ τ s a q => kk .non F' H' M' .non s a.rel .non q, fun F' H' M' v d s R' p q => kk v F' H' M' d s R' p q, fun _ _ _ _ _ _ _ q => q.elim, fun _ _ _ _ _ _ _ q => q.elim⟩
end
/-! ### facts of the top -/
/-- what the head tells -/
structure Top (fa : List He.Fa) (fn : List He.DefD) (K : PySem.W.Frag) (mg : Str → Option Value) : Prop where
  says : He.SaysD fa fn K
  at_ : ∃ h : Heap, K.In h ∧ h.Ns mainGlobals mg
section
variable {fa : List He.Fa} {fn : List He.DefD} {K : PySem.W.Frag} {mg : Str → Option Value}
theorem Top.glo (T : Top fa fn K mg) (i : Nat) {x : Str} (h : fa[i]? = some (.glo x) := by rfl) : mg x = some (.ref (He.ga K x)) := by
  obtain ⟨_, X, G⟩ := T.at_
  exact He.glo_ok X G (T.says.fact i h)
theorem Top.free (T : Top fa fn K mg) (i : Nat) {x : Str} (h : fa[i]? = some (.free x) := by rfl) : mg x = none := by
  obtain ⟨_, X, G⟩ := T.at_
  exact He.free_ok X G (T.says.fact i h)
theorem Top.int (T : Top fa fn K mg) (i : Nat) {x : Str} {z : Int} (h : fa[i]? = some (.int x z) := by rfl) : ∃ t, mg x = some (.int z t) := by
  obtain ⟨_, X, G⟩ := T.at_
  exact He.int_ok X G (T.says.fact i h)
theorem Top.str (T : Top fa fn K mg) (i : Nat) {x : Str} {z : Str} (h : fa[i]? = some (.str x z) := by rfl) : ∃ t, mg x = some (.str z t) := by
  obtain ⟨_, X, G⟩ := T.at_
  exact He.str_ok X G (T.says.fact i h)
end
section
variable {P : Program} {w : World} {K : PySem.W.Frag} {mg : Str → Option Value} {base : Heap} {x : Str} {N ps : List Str} {k : Nat} {sp : SpT} {fa : List He.Fa} {fn : List He.DefD}
/-- THE RULE of a def at the top, called by its name -/
theorem fn_top (T : Top fa fn K mg) (i : Nat) (d : He.DefD) (m : mg x = some (.ref (He.ga K x))) (S : FnScope N ps d.scope) (len : ∀ ds M Q Et, sp ds M Q Et → ds.length = ps.length)
    (hb : ∀ (cdv : Value) (A : Around) (outer : List Env) (s : Shared) (H : Hp) (E : XK), Room k (A.deeper (envOfC d.qual d.scope s.heap.objs.size (He.ga K x) cdv)) →
      ∃ t, QSs (cxOf CX0 P w K mg base N d.qual d.scope (He.ga K x) cdv A outer s H E).nox E0 Et0 d.body t ∧ ∀ ds M Q Et, sp ds M Q Et → t { nx := fun _ M' => Q .non M', rt := Q } (begin_ N ds) M)
    (bd : ∀ (kV doc pm : Value) (an : Option Addr) (cdv ct : Value) (us : List Value), us.length = ps.length → bindArgs (PySem.W.fnOf d.name d.qual d.params d.body d.scope .none kV doc pm an cdv ct) ⟨us, []⟩ = pure (ps.zip us))
    (h : fn[i]? = some d := by rfl) (h0 : d.dfl = [] := by rfl) (h1 : d.kwd = [] := by rfl) (hx : He.fAd K d.at_ = He.ga K x := by rfl) : Fn P w K mg base CX0 (k + 1) x sp := by
  obtain ⟨fd, F⟩ := T.says.def_ i h
  have e0 : d.dvs K = [] := by unfold He.DefD.dvs; rw [h0]; rfl
  have e1 : d.kws K = [] := by unfold He.DefD.kws; rw [h1]; rfl
  rw [e0, e1, hx] at F
  exact ⟨⟨fd, ps, fn_ok d fd F S len hb, F.bindsN bd⟩, m, F.kp⟩
end
/-! ### kinds -/
def dTy (M : MH) : D → Option String
  | .non => some "NoneType"
  | .bl _ => some "bool"
  | .int _ => some "int"
  | .str _ => some "str"
  | .tup _ => some "tuple"
  | .tab _ => some "tuple"
  | .lst _ => some "list"
  | .ref a => match M a with
    | some (.lst _) => some "list"
    | some (.dK _) => some "dict"
    | some (.dT _) => some "dict"
    | _ => none
  | _ => none
def cIsi : RLt := fun ds M Q => match ds with
  | [x, .ty T] => match dTy M x with
    | some t => match kitB t T with
      | some b => Q (.bl b) M
      | none => False
    | none => False
  | _ => False
theorem tyX_of {K : PySem.W.Frag} {G F H : Hp} {M : MH} {v : V} {x : D} {t : String} (R : Rel K G F H M) (p : Rp K F v x) (e : dTy M x = some t) : TyX K H v (.type t) := by
  cases p with
  | non => cases e; exact .base .non
  | bl b => cases e; exact .base (.bl b)
  | int i => cases e; exact .base (.int i)
  | str z => cases e; exact .base (.str z)
  | tup h r => cases e; exact .base (.tup (R.sub _ _ h))
  | lst h r => cases e; exact .base (.lst (R.sub _ _ h))
  | tab h r =>
    cases e
    rcases SameT R.sub h with (h | ⟨o, h⟩) | ⟨o, its, n, h, hc, _⟩
    · exact .base (.tup h)
    · exact .fTuple h
    · exact .kTuple h hc
  | ref a =>
    unfold dTy at e
    cases q : M a with
    | none => simp only [q] at e; cases e
    | some o =>
      simp only [q] at e
      obtain ⟨_, u, hu, r⟩ := R.chg a o q
      cases o with
      | lst xs => cases e; cases u <;> first | exact .base (.lst hu) | exact (r : False).elim
      | dK xs => cases e; cases u <;> first | exact .base (.dK hu) | exact (r : False).elim
      | dT xs => cases e; cases u <;> first | exact .base (.dT hu) | exact (r : False).elim
      | obj => cases e
  | _ => cases e
section
variable {X : Cx}
theorem cq_isi : CallQ X (.builtin "isinstance") cIsi := CallRimp call_isi (by
  rintro xs H Q ⟨G, F, M, ds, Qt, R, r, h, k⟩
  match ds, r, h with
  | [x, .ty T], .cons h1 (.cons (.ty _) .nil), h =>
    have h : (match dTy M x with | some t => (match kitB t T with | some b => Qt (.bl b) M | none => False) | none => False) := h
    cases e : dTy M x with
    | none => rw [e] at h; exact h.elim
    | some t =>
      rw [e] at h
      have h : (match kitB t T with | some b => Qt (.bl b) M | none => False) := h
      cases e2 : kitB t T with
      | none => rw [e2] at h; exact h.elim
      | some b =>
        rw [e2] at h
        exact ⟨_, _, _, _, b, rfl, .ty T, tyX_of R h1 e, kit_ty e2, k _ F H M _ (Same.refl _) R (.bl b) h⟩)
/-- len -/
def lenOf (M : MH) : D → Option Nat
  | .str z => if z.length ≤ sizeLine then some z.length else none
  | .tup ds => some ds.length
  | .tab ds => some ds.length
  | .lst ds => some ds.length
  | .scr ds => some ds.length
  | .ref a => match M a with
    | some (.lst ds) => some ds.length
    | _ => none
  | _ => none
def cLen : RLt := fun ds M Q => match ds with
  | [x] => match lenOf M x with
    | some n => Q (.int (n : Int)) M
    | none => False
  | _ => False
theorem lenV_of {K : PySem.W.Frag} {G F H : Hp} {M : MH} {v : V} {x : D} {n : Nat} (R : Rel K G F H M) (p : Rp K F v x) (e : lenOf M x = some n) : LenV K v H n := by
  cases p with
  | str z =>
    unfold lenOf at e
    by_cases hz : z.length ≤ sizeLine
    · simp only [if_pos hz] at e; cases e; exact ⟨hz, rfl⟩
    · simp only [if_neg hz] at e; cases e
  | tup h r => cases e; exact .inr ⟨_, SqT.of (R.sub _ _ h), by rw [r.length]⟩
  | tab h r => cases e; exact .inr ⟨_, SameT R.sub h, by rw [r.length]⟩
  | lst h r => cases e; exact .inl ⟨_, SqL.of (R.sub _ _ h), by rw [r.length]⟩
  | scr h r => cases e; exact .inl ⟨_, R.sub.seq h, by rw [r.length]⟩
  | ref a =>
    unfold lenOf at e
    cases q : M a with
    | none => simp only [q] at e; cases e
    | some o =>
      simp only [q] at e
      obtain ⟨_, u, hu, r⟩ := R.chg a o q
      cases o with
      | lst xs =>
        cases e
        cases u with
        | lst vs => exact .inl ⟨vs, SqL.of hu, by rw [Rps.length (show Rps K F vs xs from r)]⟩
        | _ => exact (r : False).elim
      | _ => cases e
  | _ => cases e
theorem cq_len : CallQ X (.builtin "len") cLen := CallRimp call_len (by
  rintro xs H Q ⟨G, F, M, ds, Qt, R, r, h, k⟩
  match ds, r, h with
  | [x], .cons h1 .nil, h =>
    have h : (match lenOf M x with | some n => Qt (.int (n : Int)) M | none => False) := h
    cases e : lenOf M x with
    | none => rw [e] at h; exact h.elim
    | some n =>
      rw [e] at h
      exact ⟨_, n, rfl, lenV_of R h1 e, k _ F H M _ (Same.refl _) R (.int _) h⟩)
/-- int of an int, of a truth -/
def cInt : RLt := fun ds M Q => match ds with
  | [.int i] => Q (.int i) M
  | [.bl b] => Q (.int (if b then 1 else 0)) M
  | _ => False
theorem cq_int : CallQ X (.type "int") cInt := CallRimp call_int1 (by
  rintro xs H Q ⟨G, F, M, ds, Qt, R, r, h, k⟩
  match ds, r, h with
  | [.int i], .cons (.int _) .nil, h => exact .inl ⟨i, rfl, k _ F H M _ (Same.refl _) R (.int _) h⟩
  | [.bl b], .cons (.bl _) .nil, h => exact .inr ⟨b, rfl, k _ F H M _ (Same.refl _) R (.int _) h⟩)
end
/-! ### methods of lists -/
abbrev RMt := D → List D → MH → VD → Prop
def lMt (K : PySem.W.Frag) (r : RMt) : V → List V → Hp → VK → Prop := fun x xs H Q => ∃ G F M dx ds Qt, Rel K G F H M ∧ Rp K F x dx ∧ Rps K F xs ds ∧ r dx ds M Qt ∧ ∀ v F' H' M' d, Same F F' → Rel K G F' H' M' → Rp K F' v d → Qt d M' → Q v H'
def tMt (r : RMt) (to : TEt) (t : TAt) : TEt := fun τ M Q => to τ M fun x M1 => (lstOf M1 x).isSome = true ∧ t τ M1 fun xs M2 => r x xs M2 Q
def tMt0 (r : RMt) (to : TEt) : TEt := fun τ M Q => to τ M fun x M1 => (lstOf M1 x).isSome = true ∧ r x [] M1 Q
theorem ty_list {K : PySem.W.Frag} {G F H : Hp} {M : MH} {v : V} {x : D} (R : Rel K G F H M) (p : Rp K F v x) (e : (lstOf M x).isSome = true) : tyV K "list" v H := by
  obtain ⟨ds, e⟩ := Option.isSome_iff_exists.mp e
  obtain ⟨a, vs, rfl, h, _⟩ := lst_of R p e
  exact .inl ⟨rfl, vs, h⟩
def mAppend : RMt := fun x xs M Q => match x, xs with
  | .ref l, [y] => match M l with
    | some (.lst ds) => ds.length < sizeLine ∧ Q .non (mup M l (.lst (ds ++ [y])))
    | _ => False
  | _, _ => False
section
variable {X : Cx} {E : XK} {Et : XT} {o e : Expr} {es : List Expr} {to : TEt} {t : TAt} {apos cpos : Pos} {name : Str} {id : String} {r : RMt} {rr : V → List V → Hp → VK → Prop}
theorem lv_bm (hi : ∀ x xs H Q, lMt X.K r x xs H Q → rr x xs H Q) : ∀ σ H Q, liftE X.K E Et (tMt r to t) σ H Q → tBM X.K "list" rr (liftE X.K E Et to) (liftA X.K E Et t) σ H Q := by
  rintro σ H Q ⟨G, F, M, τ, Qt, a, h, k⟩
  refine ⟨G, F, M, τ, _, a, h, fun v F1 H1 M1 d s1 r1 p1 q1 => ⟨ty_list r1 p1 q1.1, ?_⟩⟩
  refine ⟨G, F1, M1, τ, _, a.step s1 r1, q1.2, fun vs F2 H2 M2 ds s2 r2 p2 q2 => hi _ _ _ _ ?_⟩
  exact ⟨G, F2, M2, d, ds, Qt, r2, p1.mono s2, p2, q2, fun v F' H' M' d s => k v F' H' M' d ((s1.trans s2).trans s)⟩
theorem lv_bm0 (hi : ∀ x xs H Q, lMt X.K r x xs H Q → rr x xs H Q) : ∀ σ H Q, liftE X.K E Et (tMt0 r to) σ H Q → tBM0 X.K "list" rr (liftE X.K E Et to) σ H Q := by
  rintro σ H Q ⟨G, F, M, τ, Qt, a, h, k⟩
  refine ⟨G, F, M, τ, _, a, h, fun v F1 H1 M1 d s1 r1 p1 q1 => ⟨ty_list r1 p1 q1.1, hi _ _ _ _ ?_⟩⟩
  exact ⟨G, F1, M1, d, [], Qt, r1, p1, .nil, q1.2, fun v F' H' M' d s => k v F' H' M' d (s1.trans s)⟩
theorem q_append (ho : QE X E Et o to) (ha : QA X E Et (e :: es) t)
    (hbase : attributeBase o "append" X.env (eval o X.env) = eval o X.env := by rfl)
    (hfew : ((backTo cpos (starEach (e :: es) X.env)).all (fun x => !x.1) && (backToKw cpos (keywordEach [] X.env)).all (fun x => x.1.isSome)
      && decide ((e :: es).length + ([] : List Keyword).length + (if ([] : List Keyword).isEmpty then 0 else 1) < 30)) = true := by rfl)
    (hline : (apos.endLine == cpos.line) = true := by rfl) (hs : starEach (e :: es) X.env = (false, eval e X.env) :: starEach es X.env := by rfl) (hplain : (backTo cpos (starEach es X.env)).any (·.1) = false := by rfl) :
    QE X E Et (.Call (.Attribute o "append" apos) (e :: es) [] cpos) (tMt mAppend to t) :=
  PEimp (pe_bm PySem.F.plainAttrs_list PySem.F.slot_list_append PySem.F.type_list_append mt_append ho ha hbase hfew hline hs hplain) (lv_bm (by
    rintro x xs H Q ⟨G, F, M, dx, ds, Qt, R, p, ps, h, k⟩
    match dx, ds, p, ps, h with
    | .ref l, [y], .ref _, .cons py .nil, h =>
      have h : (match M l with | some (.lst ds) => ds.length < sizeLine ∧ Qt .non (mup M l (.lst (ds ++ [y]))) | _ => False) := h
      cases q : M l with
      | none => simp only [q] at h
      | some mo =>
        cases mo with
        | lst ds =>
          simp only [q] at h
          obtain ⟨_, u, hu, r⟩ := R.chg l _ q
          cases u with
          | lst vs =>
            have r : Rps X.K F vs ds := r
            refine ⟨l, vs, _, rfl, rfl, hu, by rw [r.length]; exact h.1, ?_⟩
            exact k .non F _ _ .non (Same.refl _) (R.put (u := .lst (vs ++ [_])) (o := .lst (ds ++ [y])) q (r.append (.cons py .nil))) .non h.2
          | _ => exact (r : False).elim
        | _ => simp only [q] at h))
end
/-! ### comprehensions -/
def wip (τ : Sg) : List Nat → Sg
  | [] => τ
  | v :: vs => (wip τ vs).set v none
theorem sg_wipe {K : PySem.W.Frag} {F : Hp} {σ : L2.St} {τ : Sg} (h : Sgr K F σ τ) : ∀ vs : List Nat, Sgr K F (wipe σ vs) (wip τ vs)
  | [] => h
  | v :: vs => by
    have := (sg_wipe h vs).unset (i := v)
    unfold wip wipe
    exact this
def liftTs (K : PySem.W.Frag) (E : XK) (Et : XT) (t : TTt) : TT := liftT K E Et t
abbrev QTs (X : Cx) (E : XK) (Et : XT) (es : List Expr) (t : TTt) : Prop := PTs X es (liftT X.K E Et t)
def tYe : TTt := fun _ M Q => Q true M
theorem qts_nil {X : Cx} {E : XK} {Et : XT} : QTs X E Et [] tYe := ⟨fun pins s σ H Q I h => pts_nil.run pins s σ H Q I (by
  obtain ⟨G, F, M, τ, Qt, a, h, k⟩ := h
  exact k true F H M (Same.refl _) a.rel h)⟩
theorem qts_one {X : Cx} {E : XK} {Et : XT} {c : Expr} {t : TTt} (h : QT X E Et c t) : QTs X E Et [c] t := pts_one h
/-- [elt for target in iter if ..], frozen: W by the turn and what is made so far; block slots vs; own: σ2 wipes as σ -/
def tLcF (ti : TIt) (g : TGt) (tt : TTt) (te : TEt) (vs : List Nat) : TEt := fun τ M Q => ti τ M fun I M1 => I.items.length < sizeLine ∧ ∃ W : Nat → List D → MH → Prop, W 0 [] M1 ∧ (∀ i acc M, W i acc M → I.src M ∧ acc.length ≤ i) ∧
  (∀ i x acc M, I.items[i]? = some x → W i acc M → g x (wip τ vs) M fun τ2 M2 => tt τ2 M2 fun b M3 => if b = true then te τ2 M3 fun y M4 => W (i + 1) (acc ++ [y]) M4 else W (i + 1) acc M3) ∧ ∀ acc M, W I.items.length acc M → Q (.lst acc) M
/-- the same, a changing list -/
def tLcM (ti : TIt) (g : TGt) (tt : TTt) (te : TEt) (vs : List Nat) : TEt := tLcF ti g tt te vs
theorem wipe_get (σ : L2.St) : ∀ (vs : List Nat) (i : Nat), (wipe σ vs)[i]? = if i ∈ vs then (σ[i]?).map (fun _ => none) else σ[i]?
  | [], i => by rw [if_neg (by simp)]; rfl
  | v :: vs, i => by
    unfold wipe
    by_cases hv : v = i
    · subst hv
      rw [if_pos (List.mem_cons_self ..)]
      by_cases hl : v < σ.length
      · rw [List.getElem?_set_self (by rw [wipe_length]; exact hl), List.getElem?_eq_getElem hl]
        rfl
      · rw [List.getElem?_eq_none (by rw [List.length_set, wipe_length]; omega), List.getElem?_eq_none (by omega)]
        rfl
    · rw [List.getElem?_set_ne hv, wipe_get σ vs i]
      by_cases hm : i ∈ vs
      · rw [if_pos hm, if_pos (List.mem_cons_of_mem _ hm)]
      · rw [if_neg hm, if_neg (fun q => by
          rcases List.mem_cons.mp q with q | q
          · exact hv q.symm
          · exact hm q)]
theorem wipe_set {σ : L2.St} {vs : List Nat} {j : Nat} {x : Option V} (h : j ∈ vs) : wipe (σ.set j x) vs = wipe σ vs := by
  apply List.ext_getElem?
  intro i
  rw [wipe_get, wipe_get]
  by_cases hm : i ∈ vs
  · rw [if_pos hm, if_pos hm]
    by_cases hij : j = i
    · subst hij
      by_cases hl : j < σ.length
      · rw [List.getElem?_set_self hl, List.getElem?_eq_getElem hl]
        rfl
      · rw [List.getElem?_eq_none (by rw [List.length_set]; omega), List.getElem?_eq_none (by omega)]
    · rw [List.getElem?_set_ne hij]
  · rw [if_neg hm, if_neg hm, List.getElem?_set_ne (fun q => hm (by rw [← q]; exact h))]
theorem wipe_wipe (σ : L2.St) (vs : List Nat) : wipe (wipe σ vs) vs = wipe σ vs := by
  apply List.ext_getElem?
  intro i
  rw [wipe_get]
  by_cases hm : i ∈ vs
  · rw [if_pos hm, wipe_get, if_pos hm]
    cases σ[i]? <;> rfl
  · rw [if_neg hm]
/-- a target whose stores are the block's own -/
structure GOwn (K : PySem.W.Frag) (g : TG) (gt : TGt) (vs : List Nat) : Prop where
  lift : ∀ {G F H M σ τ v d Q Qt}, At K E0 Et0 G F H M σ τ → Rp K F v d → gt d τ M Qt →
    (∀ F' H' M' σ' τ', Same F F' → At K E0 Et0 G F' H' M' σ' τ' → wipe σ' vs = wipe σ vs → Qt τ' M' → Q σ' H') → g v σ H Q
structure GOwns (K : PySem.W.Frag) (g : TGs) (gt : TGst) (vs : List Nat) : Prop where
  lift : ∀ {G F H M σ τ v d Q Qt}, At K E0 Et0 G F H M σ τ → Rps K F v d → gt d τ M Qt →
    (∀ F' H' M' σ' τ', Same F F' → At K E0 Et0 G F' H' M' σ' τ' → wipe σ' vs = wipe σ vs → Qt τ' M' → Q σ' H') → g v σ H Q
section
variable {K : PySem.W.Frag} {vs : List Nat}
theorem go_name {j : Nat} (h : j ∈ vs := by decide) : GOwn K (gName j) (gN j) vs := ⟨fun {G F H M σ τ v d Q Qt} a p q k => k F H M _ _ (Same.refl _) (a.store p) (wipe_set h) q⟩
theorem gos_nil : GOwns K gNil gNl vs := ⟨fun {G F H M σ τ v d Q Qt} a p q k => by
  cases p with
  | nil => exact ⟨rfl, k F H M _ _ (Same.refl _) a rfl q⟩
  | cons _ _ => exact (show False from q).elim⟩
theorem gos_cons {g : TG} {gt : TGt} {gs : TGs} {gts : TGst} (h1 : GOwn K g gt vs) (h2 : GOwns K gs gts vs) : GOwns K (gCons g gs) (gCs gt gts) vs := ⟨fun {G F H M σ τ v d Q Qt} a p q k => by
  cases p with
  | nil => exact (show False from q).elim
  | cons p1 p2 => exact ⟨_, _, rfl, h1.lift a p1 q fun F1 H1 M1 σ1 τ1 s1 a1 e1 q1 => h2.lift a1 (p2.mono s1) q1 fun F' H' M' σ' τ' s a' e q' => k F' H' M' σ' τ' (s1.trans s) a' (e.trans e1) q'⟩⟩
theorem go_tup {n : Nat} {gs : TGs} {gts : TGst} (h : GOwns K gs gts vs) : GOwn K (gTup K n gs) (gTp n gts) vs := ⟨fun {G F H M σ τ v d Q Qt} a p q k => by
  cases p with
  | tup h0 r0 => exact ⟨_, _, rfl, SqT.of (a.rel.sub _ _ h0), by rw [r0.length]; exact q.1, h.lift a r0 q.2 k⟩
  | _ => exact (show False from q).elim⟩
end
section
variable {X : Cx} {E : XK} {Et : XT} {elt tg iter : Expr} {ifs : List Expr} {scope : Scope} {own : List (Str × Nat)} {pos : Pos} {ti : TIt} {g : TG} {gt : TGt} {tt : TTt} {te : TEt}
/-- what a comprehension's reading asks of the layer below; show_: what is told of the new list -/
theorem lv_lc {vs : List Nat} (go : GOwn X.K g gt vs) {R : List D → MH → V → Hp → Prop} {σ : L2.St} {H : Hp} {Q : VK} {G F : Hp} {M : MH} {τ : Sg} {Qt : VD} (a : At X.K E Et G F H M σ τ) (h : tLcF ti gt tt te vs τ M Qt)
    (k : ∀ (F' H' : Hp) (M' : MH) (p : Addr) (vacc : List V) (acc : List D), Same F F' → Rel X.K (upd G p (.lst vacc)) F' H' M' → G p = none → Rps X.K F' vacc acc → Qt (.lst acc) M' → Q (.ref p) H') :
    tLc (liftI X.K E Et ti) g (liftT X.K E0 Et0 tt) (liftE X.K E0 Et0 te) vs σ H Q := by
  refine ⟨G, F, M, τ, _, a, h, fun J I F1 H1 M1 s1 r1 ok q1 => ?_⟩
  obtain ⟨hz, W, w0, ws, turn, done⟩ := q1
  intro Dl hD
  have hG : G Dl = none := r1.freeG hD
  refine ⟨fun i m H => m = I.items.length - i ∧ i ≤ I.items.length ∧ ∃ F' M' vacc acc, Same F1 F' ∧ Rel X.K (upd G Dl (.lst vacc)) F' H M' ∧ Rps X.K F' vacc acc ∧ W i acc M', ⟨_, rfl, Nat.zero_le _, F1, M1, [], [], Same.refl _, r1.newG hD, .nil, w0⟩, ?_⟩
  rintro i m H2 ⟨rfl, hi, F2, M2, vacc, acc, s2, r2, p2, hw⟩
  obtain ⟨hsrc, hlen⟩ := ws i acc M2 hw
  by_cases hlt : i < I.items.length
  · have hx : I.items[i]? = some I.items[i] := List.getElem?_eq_getElem hlt
    refine .inr ⟨ok.go i _ F2 H2 M2 _ s2 r2 hsrc hx, fun H' => ∃ F' M' vacc acc, Same F1 F' ∧ Rel X.K (upd G Dl (.lst vacc)) F' H' M' ∧ Rps X.K F' vacc acc ∧ W (i + 1) acc M', fun H' z => ⟨I.items.length - (i + 1), by omega, rfl, hlt, z⟩, fun v H3 y => ?_⟩
    obtain ⟨F3, s3, r3, p3⟩ := ok.yld i _ F2 H2 M2 _ v H3 s2 r2 hsrc hx y
    have a3 : At X.K E0 Et0 (upd G Dl (.lst vacc)) F3 H3 M2 (wipe σ vs) (wip τ vs) := ⟨r3, sg_wipe (a.sg.mono ((s1.trans s2).trans s3)) vs, .never⟩
    refine go.lift a3 p3 (turn i _ acc M2 hx hw) fun F4 H4 M4 σ4 τ4 s4 a4 e4 q4 => ⟨e4.trans (wipe_wipe σ vs), ?_⟩
    refine ⟨_, F4, M4, τ4, _, a4, q4, fun b F5 H5 M5 s5 r5 q5 => ?_⟩
    cases b with
    | true =>
      rw [if_pos rfl] at q5 ⊢
      refine ⟨_, F5, M5, τ4, _, a4.step s5 r5, q5, fun y F6 H6 M6 d s6 r6 p6 q6 => ?_⟩
      refine ⟨vacc, (r6.hid Dl _ upd_same).1, by rw [p2.length]; omega, F6, M6, vacc ++ [y], acc ++ [d], ((((s2.trans s3).trans s4).trans s5).trans s6), r6.putG, (p2.mono (((s3.trans s4).trans s5).trans s6)).append (.cons p6 .nil), q6⟩
    | false =>
      rw [if_neg Bool.false_ne_true] at q5 ⊢
      exact ⟨F5, M5, vacc, acc, ((s2.trans s3).trans s4).trans s5, r5, p2.mono ((s3.trans s4).trans s5), q5⟩
  · have e : i = I.items.length := by omega
    subst e
    exact .inl ⟨ok.stop _ _ F2 H2 M2 s2 r2 hsrc (Nat.le_refl _), k F2 H2 M2 Dl vacc acc (s1.trans s2) r2 hG p2 (done acc M2 hw)⟩
theorem lv_lcF {vs : List Nat} (go : GOwn X.K g gt vs) : ∀ σ H Q, liftE X.K E Et (tLcF ti gt tt te vs) σ H Q → tLc (liftI X.K E Et ti) g (liftT X.K E0 Et0 tt) (liftE X.K E0 Et0 te) vs σ H Q := by
  rintro σ H Q ⟨G, F, M, τ, Qt, a, h, k⟩
  refine lv_lc (R := fun _ _ _ _ => True) go a h fun F' H' M' p vacc acc s r hg ps q => ?_
  obtain ⟨s2, r2⟩ := r.showF hg
  exact k _ _ H' M' _ (s.trans s2) r2 (.lst upd_same (ps.mono s2)) q
/-- a changing list -/
def tLcV (ti : TIt) (g : TGt) (tt : TTt) (te : TEt) (vs : List Nat) : TEt := fun τ M Q => tLcF ti g tt te vs τ M fun d M1 => match d with
  | .lst acc => ∀ p, M1 p = none → Q (.ref p) (mup M1 p (.lst acc))
  | _ => False
theorem lv_lcV {vs : List Nat} (go : GOwn X.K g gt vs) : ∀ σ H Q, liftE X.K E Et (tLcV ti gt tt te vs) σ H Q → tLc (liftI X.K E Et ti) g (liftT X.K E0 Et0 tt) (liftE X.K E0 Et0 te) vs σ H Q := by
  rintro σ H Q ⟨G, F, M, τ, Qt, a, h, k⟩
  refine lv_lc (R := fun _ _ _ _ => True) go a h fun F' H' M' p vacc acc s r hg ps q => ?_
  have hm : M' p = none := (r.hid p _ upd_same).2.2
  exact k _ F' H' _ _ s (r.showM (u := .lst vacc) (o := .lst acc) hg ps) (.ref p) (q p hm)
theorem q_lc (hc : X.calm = true) (hN : X.N.Nodup) (hi : QI X E Et tg iter ti) (ok : BlkOk X.N X.env.scope scope own) (go : GOwn X.K g gt (own.map (·.2)))
    (hg : ∀ (s : Shared) (H : Hp) (C : Addr) (cl : List (Str × Addr)) (fp : List Addr), PG (X.blk s H scope (compEnvC scope cl C X.env) fp) tg g) (ht : ∀ (s : Shared) (H : Hp) (C : Addr) (cl : List (Str × Addr)) (fp : List Addr), QTs (X.blk s H scope (compEnvC scope cl C X.env) fp) E0 Et0 ifs tt)
    (he : ∀ (s : Shared) (H : Hp) (C : Addr) (cl : List (Str × Addr)) (fp : List Addr), QE (X.blk s H scope (compEnvC scope cl C X.env) fp) E0 Et0 elt te) (hs : ∀ x, foldedSetIterable iter X.env x = pure x := by intro _; rfl) :
    QE X E Et (.ListComp elt [⟨tg, iter, ifs, 0⟩] scope pos) (tLcF ti gt tt te (own.map (·.2))) := PEimp (pe_lc hc hN hi ok hg ht he hs) (lv_lcF go)
theorem q_lcV (hc : X.calm = true) (hN : X.N.Nodup) (hi : QI X E Et tg iter ti) (ok : BlkOk X.N X.env.scope scope own) (go : GOwn X.K g gt (own.map (·.2)))
    (hg : ∀ (s : Shared) (H : Hp) (C : Addr) (cl : List (Str × Addr)) (fp : List Addr), PG (X.blk s H scope (compEnvC scope cl C X.env) fp) tg g) (ht : ∀ (s : Shared) (H : Hp) (C : Addr) (cl : List (Str × Addr)) (fp : List Addr), QTs (X.blk s H scope (compEnvC scope cl C X.env) fp) E0 Et0 ifs tt)
    (he : ∀ (s : Shared) (H : Hp) (C : Addr) (cl : List (Str × Addr)) (fp : List Addr), QE (X.blk s H scope (compEnvC scope cl C X.env) fp) E0 Et0 elt te) (hs : ∀ x, foldedSetIterable iter X.env x = pure x := by intro _; rfl) :
    QE X E Et (.ListComp elt [⟨tg, iter, ifs, 0⟩] scope pos) (tLcV ti gt tt te (own.map (·.2))) := PEimp (pe_lc hc hN hi ok hg ht he hs) (lv_lcV go)
/-- x = [..] -/
theorem qs_setLc {i : Nat} {y : Str} {py spos : Pos} {tl : TEt} (lv : ∀ σ H Q, liftE X.K E Et tl σ H Q → tLc (liftI X.K E Et ti) g (liftT X.K E0 Et0 tt) (liftE X.K E0 Et0 te) (own.map (·.2)) σ H Q) (hc : X.calm = true) (hN : X.N.Nodup) (hi : QI X E Et tg iter ti) (ok : BlkOk X.N X.env.scope scope own)
    (hg : ∀ (s : Shared) (H : Hp) (C : Addr) (cl : List (Str × Addr)) (fp : List Addr), PG (X.blk s H scope (compEnvC scope cl C X.env) fp) tg g) (ht : ∀ (s : Shared) (H : Hp) (C : Addr) (cl : List (Str × Addr)) (fp : List Addr), QTs (X.blk s H scope (compEnvC scope cl C X.env) fp) E0 Et0 ifs tt)
    (he : ∀ (s : Shared) (H : Hp) (C : Addr) (cl : List (Str × Addr)) (fp : List Addr), QE (X.blk s H scope (compEnvC scope cl C X.env) fp) E0 Et0 elt te)
    (hsw : swapsWith (.ListComp elt [⟨tg, iter, ifs, 0⟩] scope pos) (some (.Name y py)) spos.line X.env = pure true) (hy : X.N[i]? = some y := by rfl) (hyl : X.env.scope.names.lookup y = some .local := by rfl) (hs : ∀ x, foldedSetIterable iter X.env x = pure x := by intro _; rfl) :
    QS X E Et (.Assign [.Name y py] (.ListComp elt [⟨tg, iter, ifs, 0⟩] scope pos) spos) (sAs tl (gN i)) := PSimp (ps_setLc hc hN hy hyl hsw hi ok hg ht he hs) (by
  rintro D σ H ⟨G, F, M, τ, Dt, a, en, h⟩
  refine lv _ _ _ ⟨G, F, M, τ, _, a, h, fun v F1 H1 M1 d s1 r1 p1 q1 => ?_⟩
  exact en.nx F1 H1 M1 _ _ s1 ((a.step s1 r1).store p1) q1)
end
/-! ### the law's end -/
def spLaw : SpT := fun ds M Q _ => ∃ ns : List Int, ds = [.scr (ns.map D.int)] ∧ ns.length ≤ 63 ∧ ∀ M', Q (.bl true) M'
theorem rps_ints {K : PySem.W.Frag} {F : Hp} : ∀ ns : List Int, Rps K F (ns.map V.int) (ns.map D.int)
  | [] => .nil
  | n :: ns => .cons (.int n) (rps_ints ns)
theorem end_sp {K : PySem.W.Frag} {sp : SpT} {H : Hp} {a : Addr} {ns : List Int} (hS : SqL K H a (ns.map V.int)) (h : sp [.scr (ns.map D.int)] (fun _ => none) (fun d _ => d = .bl true) Et0) :
    lSp K sp [.ref a] H (fun v _ => v = .bl true) fun _ _ _ => False :=
  ⟨fun _ => none, H, fun _ => none, _, _, Et0, ⟨Same.refl _, fun _ _ e => (nomatch (show (none : Option MO) = some _ from e)), fun _ _ e => (nomatch (show (none : Option HO) = some _ from e))⟩, .cons (.scr hS (rps_ints ns)) .nil, .never, h, fun v F' H' M' d _ _ p q => by
    subst q
    exact p.bl_inv⟩
end Tl

namespace Tl
open PySem PySem.Spec PyProof.Rows L2
theorem kit_ii : kitB "int" "int" = some true := by decide +kernel
theorem kit_ib : kitB "int" "bool" = some false := by decide +kernel
theorem kit_bi : kitB "bool" "int" = some true := by decide +kernel
theorem kit_bb : kitB "bool" "bool" = some true := by decide +kernel
theorem kit_si : kitB "str" "int" = some false := by decide +kernel
theorem kit_ss : kitB "str" "str" = some true := by decide +kernel
theorem kit_is : kitB "int" "str" = some false := by decide +kernel
theorem kit_tt : kitB "tuple" "tuple" = some true := by decide +kernel
theorem kit_ll : kitB "list" "list" = some true := by decide +kernel
theorem kit_lt : kitB "list" "tuple" = some false := by decide +kernel
theorem kit_tl : kitB "tuple" "list" = some false := by decide +kernel
theorem kit_ts : kitB "tuple" "str" = some false := by decide +kernel
theorem kit_ls : kitB "list" "str" = some false := by decide +kernel
theorem kit_sl : kitB "str" "list" = some false := by decide +kernel
theorem kit_st : kitB "str" "tuple" = some false := by decide +kernel
theorem kit_it : kitB "int" "tuple" = some false := by decide +kernel
theorem kit_il : kitB "int" "list" = some false := by decide +kernel
theorem kit_dd : kitB "dict" "dict" = some true := by decide +kernel
theorem kit_ni : kitB "NoneType" "int" = some false := by decide +kernel
theorem kit_nb : kitB "NoneType" "bool" = some false := by decide +kernel
theorem nth_0 (x : Option D) (t : Sg) : nth (x :: t) 0 = x := rfl
theorem nth_s (x : Option D) (t : Sg) (n : Nat) : nth (x :: t) (n + 1) = nth t n := rfl
theorem set_0 (x y : Option D) (t : Sg) : (x :: t).set 0 y = y :: t := rfl
theorem set_s (x y : Option D) (t : Sg) (n : Nat) : (x :: t).set (n + 1) y = x :: t.set n y := rfl
/-! ### written things, however many -/
def lit : Expr → Option D
  | .Constant (.int i) _ _ => some (.int i)
  | .Constant (.str x) _ _ => some (.str x)
  | .Constant (.bool b) _ _ => some (.bl b)
  | .Constant .none _ _ => some .non
  | .UnaryOp .USub (.Constant (.int i) _ _) _ => some (.int (-i))
  | _ => none
def litAll : List Expr → Option (List D)
  | [] => some []
  | e :: es => match lit e with
    | some d => match litAll es with
      | some ds => some (d :: ds)
      | none => none
    | none => none
def tLt (ds : List D) : TAt := fun _ M Q => Q ds M
section
variable {X : Cx} {E : XK} {Et : XT}
theorem q_lit {e : Expr} {d : D} (h : lit e = some d) : QE X E Et e (tK d) := by
  unfold lit at h
  split at h
  · cases h; exact q_int
  · cases h; exact q_str
  · cases h; exact q_bl
  · cases h; exact q_non
  · cases h
    exact PEimp (q_un uq_neg q_int) (fun σ H Q h => h)
  · cases h
theorem lit_star {e : Expr} {es : List Expr} {d : D} {env : Env} (h : lit e = some d) : starEach (e :: es) env = (false, eval e env) :: starEach es env := by
  unfold lit at h
  split at h <;> first | rfl | cases h
theorem qa_lits : ∀ {es : List Expr} {ds : List D}, litAll es = some ds → QA X E Et es (tLt ds)
  | [], ds, h => by
    cases h
    exact qa_nil
  | e :: es, ds, h => by
    unfold litAll at h
    cases h1 : lit e with
    | none => simp only [h1] at h; cases h
    | some d =>
      simp only [h1] at h
      cases h2 : litAll es with
      | none => simp only [h2] at h; cases h
      | some ds' =>
        simp only [h2] at h
        cases h
        exact PAimp (qa_cons (q_lit h1) (qa_lits h2) (lit_star h1)) (fun σ H Q h => h)
end
end Tl

namespace Tl
open PySem PySem.Spec PyProof.Rows L2

/-! ### // and % by any divisor, divmod -/
def CDivZ (_ j : Int) : Prop := j ≠ 0 ∧ j.natAbs.log2 < 9000
theorem divz_of {i j : Int} (h : j ≠ 0) (hb : j.natAbs < 2 ^ 4000) : CDivZ i j := ⟨h, Nat.lt_of_lt_of_le (PySem.Flt.log2_lt_of (by decide) hb) (by decide)⟩
theorem divz_40 {i j : Int} (h : j ≠ 0) (hb : j.natAbs < 2 ^ 40) : CDivZ i j := ⟨h, Nat.lt_of_lt_of_le (PySem.Flt.log2_lt_of (by decide) hb) (by decide)⟩
section
variable {X : Cx}
theorem op_fdivZ : OpR X (binaryOp .FloorDiv) (rI CDivZ fun i j => .int (i.fdiv j)) := opI fun i j _ _ _ _ _ hc q => floordiv_int hc.1 q (.inl (PyProof.noPylong_of_log2 hc.2))
theorem oq_fdivZ : OpQ X (binaryOp .FloorDiv) (bInt CDivZ fun i j => .int (i.fdiv j)) := OpRimp op_fdivZ (lr2_int (fun _ _ _ => .int _) bInt_inv)
theorem call_divmodZ : CallR X (.builtin "divmod") (fun xs H Q => ∃ i j, xs = [.int i, .int j] ∧ CDivZ i j ∧ ∀ p, H p = none → Q (.ref p) (upd H p (.tup [.int (i.fdiv j), .int (i.fmod j)]))) := by
  intro pins s σ H xs us Q I r h
  obtain ⟨i, j, rfl, ⟨h1, h2⟩, q⟩ := h
  obtain ⟨u, w', rfl, ⟨t, rfl⟩, ⟨t', rfl⟩⟩ := vals2 r
  refine divmod_int h1 ?_ (.inl (PyProof.noPylong_of_log2 h2))
  have hn : H s.heap.objs.size = none := I.hok.fresh (Nat.le_refl _)
  refine ⟨.ref s.heap.objs.size, _, ?_, rfl, q _ hn⟩
  refine I.laid (fun b o e => Heap.get?_push_of_some _ e) (Nat.le_refl _) ⟨by simp only [List.length_cons, List.length_nil]; rw [sizeLine_eq]; decide, [.int (i.fdiv j) s.toks, .int (i.fmod j) (s.toks + 1)], .cons ⟨_, rfl⟩ (.cons ⟨_, rfl⟩ .nil), ?_⟩
  exact ⟨_, Heap.get?_push_size s.heap rfl, rfl, 0, rfl⟩
def cDivmod : RLt := fun ds M Q => match ds with
  | [.int i, .int j] => CDivZ i j ∧ Q (.tup [.int (i.fdiv j), .int (i.fmod j)]) M
  | _ => False
theorem cq_divmod : CallQ X (.builtin "divmod") cDivmod := CallRimp call_divmodZ (by
  rintro xs H Q ⟨G, F, M, ds, Qt, R, r, h, k⟩
  match ds, r, h with
  | [.int i, .int j], .cons (.int _) (.cons (.int _) .nil), h =>
    refine ⟨i, j, rfl, h.1, fun p np => ?_⟩
    obtain ⟨s, r1⟩ := R.newF (o := .tup [.int (i.fdiv j), .int (i.fmod j)]) np
    exact k _ _ _ M _ s r1 (.tup upd_same (.cons (.int _) (.cons (.int _) .nil))) h.2)
/-! ### list(x), sum, max, min, all, any -/
/-- the items of a list or a tuple -/
def seqOf (M : MH) (d : D) : Option (List D) := match tupOf d with
  | some ds => some ds
  | none => lstOf M d
theorem seq_of {K : PySem.W.Frag} {G F H : Hp} {M : MH} {v : V} {d : D} {ds : List D} (R : Rel K G F H M) (p : Rp K F v d) (e : seqOf M d = some ds) : ∃ a vs, v = .ref a ∧ (SqL K H a vs ∨ SqT K H a vs) ∧ Rps K F vs ds := by
  unfold seqOf at e
  cases q : tupOf d with
  | some es =>
    rw [q] at e
    cases e
    obtain ⟨a, vs, h1, h2, h3⟩ := tup_of R p q
    exact ⟨a, vs, h1, .inr h2, h3⟩
  | none =>
    rw [q] at e
    obtain ⟨a, vs, h1, h2, h3⟩ := lst_of R p e
    exact ⟨a, vs, h1, .inl h2, h3⟩
def cList : RLt := fun ds M Q => match ds with
  | [x] => match seqOf M x with
    | some es => Q (.lst es) M
    | none => False
  | _ => False
def cListM : RLt := fun ds M Q => match ds with
  | [x] => match seqOf M x with
    | some es => ∀ p, M p = none → Q (.ref p) (mup M p (.lst es))
    | none => False
  | _ => False
theorem cq_list : CallQ X (.type "list") cList := CallRimp call_list_of (by
  rintro xs H Q ⟨G, F, M, ds, Qt, R, r, h, k⟩
  match ds, r, h with
  | [x], .cons h1 .nil, h =>
    have h : (match seqOf M x with | some es => Qt (.lst es) M | none => False) := h
    cases e : seqOf M x with
    | none => rw [e] at h; exact h.elim
    | some es =>
      rw [e] at h
      obtain ⟨a, vs, rfl, hs, r⟩ := seq_of R h1 e
      refine ⟨a, vs, rfl, hs, fun p np => ?_⟩
      obtain ⟨s, r1⟩ := R.newF (o := .lst vs) np
      exact k _ _ _ M _ s r1 (.lst upd_same (r.mono s)) h)
theorem cq_listM : CallQ X (.type "list") cListM := CallRimp call_list_of (by
  rintro xs H Q ⟨G, F, M, ds, Qt, R, r, h, k⟩
  match ds, r, h with
  | [x], .cons h1 .nil, h =>
    have h : (match seqOf M x with | some es => ∀ p, M p = none → Qt (.ref p) (mup M p (.lst es)) | none => False) := h
    cases e : seqOf M x with
    | none => rw [e] at h; exact h.elim
    | some es =>
      rw [e] at h
      obtain ⟨a, vs, rfl, hs, r⟩ := seq_of R h1 e
      refine ⟨a, vs, rfl, hs, fun p np => ?_⟩
      exact k _ F _ _ _ (Same.refl _) (R.newM (u := .lst vs) (o := .lst es) np r) (.ref p) (h p (R.free np).2))
/-- a list of whole numbers -/
def intsD : List D → Option (List Int)
  | [] => some []
  | .int i :: r => match intsD r with
    | some is => some (i :: is)
    | none => none
  | _ => none
theorem intsD_map : ∀ is : List Int, intsD (is.map D.int) = some is
  | [] => rfl
  | i :: is => by simp only [List.map_cons, intsD, intsD_map is]
theorem ints_of {K : PySem.W.Frag} {F : Hp} : ∀ {vs : List V} {ds : List D} {is : List Int}, Rps K F vs ds → intsD ds = some is → vs = is.map V.int
  | _, _, _, .nil, e => by cases e; rfl
  | _, _, _, .cons (.int i) t, e => by
    unfold intsD at e
    split at e
    · rename_i is' q
      cases e
      rw [ints_of t q]; rfl
    · cases e
  | _, _, _, .cons .non _, e => by cases e
  | _, _, _, .cons (.bl _) _, e => by cases e
  | _, _, _, .cons (.str _) _, e => by cases e
  | _, _, _, .cons (.ty _) _, e => by cases e
  | _, _, _, .cons (.ref _) _, e => by cases e
  | _, _, _, .cons (.tup _ _) _, e => by cases e
  | _, _, _, .cons (.tab _ _) _, e => by cases e
  | _, _, _, .cons (.scr _ _) _, e => by cases e
  | _, _, _, .cons (.lst _ _) _, e => by cases e
def intLst (M : MH) (d : D) : Option (List Int) := match lstOf M d with
  | some ds => intsD ds
  | none => none
theorem intLst_of {K : PySem.W.Frag} {G F H : Hp} {M : MH} {v : V} {d : D} {is : List Int} (R : Rel K G F H M) (p : Rp K F v d) (e : intLst M d = some is) : ∃ a, v = .ref a ∧ SqL K H a (is.map V.int) := by
  unfold intLst at e
  cases q : lstOf M d with
  | none => rw [q] at e; cases e
  | some ds =>
    rw [q] at e
    obtain ⟨a, vs, rfl, hs, r⟩ := lst_of R p q
    rw [ints_of r e] at hs
    exact ⟨a, rfl, hs⟩
def cSum : RLt := fun ds M Q => match ds with
  | [x] => match intLst M x with
    | some is => Q (.int is.sum) M
    | none => False
  | _ => False
def cMax : RLt := fun ds M Q => match ds with
  | [x] => match intLst M x with
    | some is => 0 < is.length ∧ ∀ m, m ∈ is → (∀ y, y ∈ is → y ≤ m) → Q (.int m) M
    | none => False
  | _ => False
def cMin : RLt := fun ds M Q => match ds with
  | [x] => match intLst M x with
    | some is => 0 < is.length ∧ ∀ m, m ∈ is → (∀ y, y ∈ is → m ≤ y) → Q (.int m) M
    | none => False
  | _ => False
theorem cq_sum (hc : X.calm = true) : CallQ X (.builtin "sum") cSum := CallRimp (cr_sum hc) (by
  rintro xs H Q ⟨G, F, M, ds, Qt, R, r, h, k⟩
  match ds, r, h with
  | [x], .cons h1 .nil, h =>
    have h : (match intLst M x with | some is => Qt (.int is.sum) M | none => False) := h
    cases e : intLst M x with
    | none => rw [e] at h; exact h.elim
    | some is =>
      rw [e] at h
      obtain ⟨a, rfl, hs⟩ := intLst_of R h1 e
      exact ⟨a, is, rfl, hs, k _ F H M _ (Same.refl _) R (.int _) h⟩)
theorem cq_max (hc : X.calm = true) : CallQ X (.builtin "max") cMax := CallRimp (cr_max hc) (by
  rintro xs H Q ⟨G, F, M, ds, Qt, R, r, h, k⟩
  match ds, r, h with
  | [x], .cons h1 .nil, h =>
    have h : (match intLst M x with | some is => 0 < is.length ∧ ∀ m, m ∈ is → (∀ y, y ∈ is → y ≤ m) → Qt (.int m) M | none => False) := h
    cases e : intLst M x with
    | none => rw [e] at h; exact h.elim
    | some is =>
      rw [e] at h
      obtain ⟨a, rfl, hs⟩ := intLst_of R h1 e
      exact ⟨a, is, rfl, hs, h.1, fun m hm hy => k _ F H M _ (Same.refl _) R (.int _) (h.2 m hm hy)⟩)
theorem cq_min (hc : X.calm = true) : CallQ X (.builtin "min") cMin := CallRimp (cr_min hc) (by
  rintro xs H Q ⟨G, F, M, ds, Qt, R, r, h, k⟩
  match ds, r, h with
  | [x], .cons h1 .nil, h =>
    have h : (match intLst M x with | some is => 0 < is.length ∧ ∀ m, m ∈ is → (∀ y, y ∈ is → m ≤ y) → Qt (.int m) M | none => False) := h
    cases e : intLst M x with
    | none => rw [e] at h; exact h.elim
    | some is =>
      rw [e] at h
      obtain ⟨a, rfl, hs⟩ := intLst_of R h1 e
      exact ⟨a, is, rfl, hs, h.1, fun m hm hy => k _ F H M _ (Same.refl _) R (.int _) (h.2 m hm hy)⟩)
def cMax2 : RLt := fun ds M Q => match ds with
  | [.int i, .int j] => Q (.int (if j > i then j else i)) M
  | _ => False
def cMin2 : RLt := fun ds M Q => match ds with
  | [.int i, .int j] => Q (.int (if j < i then j else i)) M
  | _ => False
theorem cq_max2 (hc : X.calm = true) : CallQ X (.builtin "max") cMax2 := CallRimp (call_max2 hc) (by
  rintro xs H Q ⟨G, F, M, ds, Qt, R, r, h, k⟩
  match ds, r, h with
  | [.int i, .int j], .cons (.int _) (.cons (.int _) .nil), h => exact ⟨i, j, rfl, k _ F H M _ (Same.refl _) R (.int _) h⟩)
theorem cq_min2 (hc : X.calm = true) : CallQ X (.builtin "min") cMin2 := CallRimp (call_min2 hc) (by
  rintro xs H Q ⟨G, F, M, ds, Qt, R, r, h, k⟩
  match ds, r, h with
  | [.int i, .int j], .cons (.int _) (.cons (.int _) .nil), h => exact ⟨i, j, rfl, k _ F H M _ (Same.refl _) R (.int _) h⟩)
def cAbs : RLt := fun ds M Q => match ds with
  | [.int i] => Q (.int (if i < 0 then -i else i)) M
  | _ => False
theorem cq_abs : CallQ X (.builtin "abs") cAbs := CallRimp call_abs (by
  rintro xs H Q ⟨G, F, M, ds, Qt, R, r, h, k⟩
  match ds, r, h with
  | [.int i], .cons (.int _) .nil, h => exact ⟨i, rfl, k _ F H M _ (Same.refl _) R (.int _) h⟩)
/-- a list of truths -/
def blsD : List D → Option (List Bool)
  | [] => some []
  | .bl i :: r => match blsD r with
    | some is => some (i :: is)
    | none => none
  | _ => none
theorem blsD_map : ∀ is : List Bool, blsD (is.map D.bl) = some is
  | [] => rfl
  | i :: is => by simp only [List.map_cons, blsD, blsD_map is]
theorem bls_of {K : PySem.W.Frag} {F : Hp} : ∀ {vs : List V} {ds : List D} {is : List Bool}, Rps K F vs ds → blsD ds = some is → vs = is.map V.bl
  | _, _, _, .nil, e => by cases e; rfl
  | _, _, _, .cons (.bl i) t, e => by
    unfold blsD at e
    split at e
    · rename_i is' q
      cases e
      rw [bls_of t q]; rfl
    · cases e
  | _, _, _, .cons .non _, e => by cases e
  | _, _, _, .cons (.int _) _, e => by cases e
  | _, _, _, .cons (.str _) _, e => by cases e
  | _, _, _, .cons (.ty _) _, e => by cases e
  | _, _, _, .cons (.ref _) _, e => by cases e
  | _, _, _, .cons (.tup _ _) _, e => by cases e
  | _, _, _, .cons (.tab _ _) _, e => by cases e
  | _, _, _, .cons (.scr _ _) _, e => by cases e
  | _, _, _, .cons (.lst _ _) _, e => by cases e
def blLst (M : MH) (d : D) : Option (List Bool) := match lstOf M d with
  | some ds => blsD ds
  | none => none
theorem blLst_of {K : PySem.W.Frag} {G F H : Hp} {M : MH} {v : V} {d : D} {is : List Bool} (R : Rel K G F H M) (p : Rp K F v d) (e : blLst M d = some is) : ∃ a, v = .ref a ∧ SqL K H a (is.map V.bl) := by
  unfold blLst at e
  cases q : lstOf M d with
  | none => rw [q] at e; cases e
  | some ds =>
    rw [q] at e
    obtain ⟨a, vs, rfl, hs, r⟩ := lst_of R p q
    rw [bls_of r e] at hs
    exact ⟨a, rfl, hs⟩
def cAny : RLt := fun ds M Q => match ds with
  | [x] => match blLst M x with
    | some is => Q (.bl (is.any id)) M
    | none => False
  | _ => False
def cAll : RLt := fun ds M Q => match ds with
  | [x] => match blLst M x with
    | some is => Q (.bl (is.all id)) M
    | none => False
  | _ => False
theorem cq_any (hc : X.calm = true) : CallQ X (.builtin "any") cAny := CallRimp (cr_any hc) (by
  rintro xs H Q ⟨G, F, M, ds, Qt, R, r, h, k⟩
  match ds, r, h with
  | [x], .cons h1 .nil, h =>
    have h : (match blLst M x with | some is => Qt (.bl (is.any id)) M | none => False) := h
    cases e : blLst M x with
    | none => rw [e] at h; exact h.elim
    | some is =>
      rw [e] at h
      obtain ⟨a, rfl, hs⟩ := blLst_of R h1 e
      exact ⟨a, is, rfl, hs, k _ F H M _ (Same.refl _) R (.bl _) h⟩)
theorem cq_all (hc : X.calm = true) : CallQ X (.builtin "all") cAll := CallRimp (cr_all hc) (by
  rintro xs H Q ⟨G, F, M, ds, Qt, R, r, h, k⟩
  match ds, r, h with
  | [x], .cons h1 .nil, h =>
    have h : (match blLst M x with | some is => Qt (.bl (is.all id)) M | none => False) := h
    cases e : blLst M x with
    | none => rw [e] at h; exact h.elim
    | some is =>
      rw [e] at h
      obtain ⟨a, rfl, hs⟩ := blLst_of R h1 e
      exact ⟨a, is, rfl, hs, k _ F H M _ (Same.refl _) R (.bl _) h⟩)
end
/-! ### enumerate, zip, range with a step, a text sign by sign -/
def enumD (xs : List D) : List D := xs.mapIdx fun i x => .tup [.int (i : Nat), x]
def zipD (xs ys : List D) : List D := List.zipWith (fun x y => .tup [x, y]) xs ys
def iEn (ta : TAt) : TIt := fun τ M Q => ta τ M fun ds M1 => match ds with
  | [d] => match lstOf M1 d with
    | some xs => Q ⟨enumD xs, fun M => lstOf M d = some xs⟩ M1
    | none => False
  | _ => False
def iZi (ta : TAt) : TIt := fun τ M Q => ta τ M fun ds M1 => match ds with
  | [d, e] => match lstOf M1 d with
    | some xs => match lstOf M1 e with
      | some ys => Q ⟨zipD xs ys, fun M => lstOf M d = some xs ∧ lstOf M e = some ys⟩ M1
      | none => False
    | none => False
  | _ => False
def iR3 (ta : TAt) : TIt := fun τ M Q => ta τ M fun ds M1 => match ds with
  | [.int i, .int j, .int c] => ∃ n, RgC i j c n ∧ Q ⟨(List.range n).map fun k => .int (i + (k : Nat) * c), fun _ => True⟩ M1
  | _ => False
def iSt (te : TEt) : TIt := fun τ M Q => te τ M fun d M1 => match d with
  | .str z => Q ⟨z.cps.toList.map fun c => .str ⟨#[c]⟩, fun _ => True⟩ M1
  | _ => False
def iRv (ta : TAt) : TIt := fun τ M Q => ta τ M fun ds M1 => match ds with
  | [d] => match lstOf M1 d with
    | some xs => Q ⟨xs.reverse, fun M => lstOf M d = some xs⟩ M1
    | none => False
  | _ => False
section
variable {X : Cx} {E : XK} {Et : XT} {pos p tpos : Pos} {elts : List Expr} {kk : Nat} {tg e e2 : Expr} {ta : TAt} {te : TEt}
theorem enumD_get {xs : List D} {i : Nat} {x : D} (h : (enumD xs)[i]? = some x) : ∃ y, xs[i]? = some y ∧ x = .tup [.int (i : Nat), y] := by
  unfold enumD at h
  rw [List.getElem?_mapIdx] at h
  cases e : xs[i]? with
  | none => rw [e] at h; cases h
  | some y => rw [e] at h; exact ⟨y, rfl, (Option.some.inj h).symm⟩
theorem itOk_enum {K : PySem.W.Frag} {F0 : Hp} {a : Addr} {d : D} {ds : List D} (p : Rp K F0 (.ref a) d) : ItOk K F0 (Ite K a) ⟨enumD ds, fun M => lstOf M d = some ds⟩ where
  go := fun i G F H M x s R h hx => by
    obtain ⟨b, vs, e, hs, r⟩ := lst_of R (p.mono s) h
    cases e
    obtain ⟨y, hy, _⟩ := enumD_get hx
    obtain ⟨v, hv, _⟩ := r.getD hy
    exact ⟨vs, v, hs, hv⟩
  yld := fun i G F H M x v H' s R h hx y => by
    obtain ⟨b, vs, e, hs, r⟩ := lst_of R (p.mono s) h
    cases e
    obtain ⟨z, hz, rfl⟩ := enumD_get hx
    obtain ⟨v', hv, rv⟩ := r.getD hz
    obtain ⟨T, w, rfl, nT, rfl, f⟩ := y
    have := SqL_get hs hv f
    subst this
    obtain ⟨s2, r2⟩ := R.newF (o := .tup [.int (i : Nat), w]) nT
    exact ⟨_, s2, r2, .tup upd_same (.cons (.int _) (.cons (rv.mono s2) .nil))⟩
  stop := fun i G F H M s R h hl => by
    obtain ⟨b, vs, e, hs, r⟩ := lst_of R (p.mono s) h
    cases e
    have hl : (enumD ds).length ≤ i := hl
    unfold enumD at hl
    rw [List.length_mapIdx] at hl
    exact ⟨vs, hs, by rw [r.length]; exact hl⟩
theorem qi_enum (hm : X.mg "enumerate" = none) (ha : QA X E Et [e] ta) (hg : Gl X "enumerate" := by rfl) (hs : starEach [e] X.env = [(false, eval e X.env)] := by rfl) : QI X E Et (.Tuple elts kk tpos) (.Call (.Name "enumerate" p) [e] [] pos) (iEn ta) := by
  refine ⟨fun pins s σ H R I h => (pi_enum hg hm ha hs).run pins s σ H R I ?_⟩
  obtain ⟨G, F, M, τ, Qt, a, h, k⟩ := h
  refine ⟨G, F, M, τ, _, a, h, fun vs F1 H1 M1 ds s1 r1 p1 q1 => ?_⟩
  match ds, p1, q1 with
  | [d], .cons h1 .nil, q1 =>
    have q1 : (match lstOf M1 d with | some xs => Qt ⟨enumD xs, fun M => lstOf M d = some xs⟩ M1 | none => False) := q1
    cases q : lstOf M1 d with
    | none => rw [q] at q1; exact q1.elim
    | some xs =>
      rw [q] at q1
      obtain ⟨b, vs, rfl, hs, r⟩ := lst_of r1 h1 q
      exact ⟨b, vs, rfl, hs, k _ _ F1 H1 M1 s1 r1 (itOk_enum h1) q1⟩
theorem zipD_get {xs ys : List D} {i : Nat} {x : D} (h : (zipD xs ys)[i]? = some x) : ∃ y z, xs[i]? = some y ∧ ys[i]? = some z ∧ x = .tup [y, z] := by
  unfold zipD at h
  rw [List.getElem?_zipWith] at h
  cases e : xs[i]? with
  | none => rw [e] at h; cases h
  | some y =>
    cases e2 : ys[i]? with
    | none => rw [e, e2] at h; cases h
    | some z => rw [e, e2] at h; exact ⟨y, z, rfl, rfl, (Option.some.inj h).symm⟩
theorem itOk_zip {K : PySem.W.Frag} {F0 : Hp} {a b : Addr} {d d2 : D} {ds ds2 : List D} (p : Rp K F0 (.ref a) d) (p2 : Rp K F0 (.ref b) d2) : ItOk K F0 (Itz K a b) ⟨zipD ds ds2, fun M => lstOf M d = some ds ∧ lstOf M d2 = some ds2⟩ where
  go := fun i G F H M x s R h hx => by
    obtain ⟨a', vs, e, hs, r⟩ := lst_of R (p.mono s) h.1
    cases e
    obtain ⟨b', ws, e, hs2, r2⟩ := lst_of R (p2.mono s) h.2
    cases e
    obtain ⟨y, z, hy, hz, _⟩ := zipD_get hx
    obtain ⟨v, hv, _⟩ := r.getD hy
    obtain ⟨w, hw, _⟩ := r2.getD hz
    exact ⟨vs, ws, v, w, hs, hs2, hv, hw⟩
  yld := fun i G F H M x v H' s R h hx y => by
    obtain ⟨a', vs, e, hs, r⟩ := lst_of R (p.mono s) h.1
    cases e
    obtain ⟨b', ws, e, hs2, r2⟩ := lst_of R (p2.mono s) h.2
    cases e
    obtain ⟨y1, z1, hy, hz, rfl⟩ := zipD_get hx
    obtain ⟨v', hv, rv⟩ := r.getD hy
    obtain ⟨w', hw, rw'⟩ := r2.getD hz
    obtain ⟨T, c1, c2, rfl, nT, rfl, f1, f2⟩ := y
    have e1 := SqL_get hs hv f1
    subst e1
    have e2 := SqL_get hs2 hw f2
    subst e2
    obtain ⟨s2, r2⟩ := R.newF (o := .tup [c1, c2]) nT
    exact ⟨_, s2, r2, .tup upd_same (.cons (rv.mono s2) (.cons (rw'.mono s2) .nil))⟩
  stop := fun i G F H M s R h hl => by
    obtain ⟨a', vs, e, hs, r⟩ := lst_of R (p.mono s) h.1
    cases e
    obtain ⟨b', ws, e, hs2, r2⟩ := lst_of R (p2.mono s) h.2
    cases e
    have hl : (zipD ds ds2).length ≤ i := hl
    unfold zipD at hl
    rw [List.length_zipWith] at hl
    exact ⟨vs, ws, hs, hs2, by rw [r.length, r2.length]; omega⟩
theorem qi_zip (hm : X.mg "zip" = none) (ha : QA X E Et [e, e2] ta) (hg : Gl X "zip" := by rfl)
    (hs : starEach [e, e2] X.env = (false, eval e X.env) :: starEach [e2] X.env := by rfl) (hpl : (backTo pos (starEach [e2] X.env)).any (·.1) = false := by rfl) : QI X E Et (.Tuple elts kk tpos) (.Call (.Name "zip" p) [e, e2] [] pos) (iZi ta) := by
  refine ⟨fun pins s σ H R I h => (pi_zip hg hm ha hs hpl).run pins s σ H R I ?_⟩
  obtain ⟨G, F, M, τ, Qt, a, h, k⟩ := h
  refine ⟨G, F, M, τ, _, a, h, fun vs F1 H1 M1 ds s1 r1 p1 q1 => ?_⟩
  match ds, p1, q1 with
  | [d, d2], .cons h1 (.cons h2 .nil), q1 =>
    have q1 : (match lstOf M1 d with | some xs => (match lstOf M1 d2 with | some ys => Qt ⟨zipD xs ys, fun M => lstOf M d = some xs ∧ lstOf M d2 = some ys⟩ M1 | none => False) | none => False) := q1
    cases q : lstOf M1 d with
    | none => rw [q] at q1; exact q1.elim
    | some xs =>
      rw [q] at q1
      have q1 : (match lstOf M1 d2 with | some ys => Qt ⟨zipD xs ys, fun M => lstOf M d = some xs ∧ lstOf M d2 = some ys⟩ M1 | none => False) := q1
      cases qq : lstOf M1 d2 with
      | none => rw [qq] at q1; exact q1.elim
      | some ys =>
        rw [qq] at q1
        obtain ⟨b, vs, rfl, hs, r⟩ := lst_of r1 h1 q
        obtain ⟨c, ws, rfl, hs2, r2⟩ := lst_of r1 h2 qq
        exact ⟨b, c, vs, ws, rfl, hs, hs2, k _ _ F1 H1 M1 s1 r1 (itOk_zip h1 h2) q1⟩
theorem itOk_rangeC {K : PySem.W.Frag} {F0 : Hp} {lo c : Int} {n : Nat} : ItOk K F0 (Itc lo c n) ⟨(List.range n).map fun k => .int (lo + (k : Nat) * c), fun _ => True⟩ where
  go := fun i G F H M x s R _ hx => (range_at hx).1
  yld := fun i G F H M x v H' s R _ hx y => by
    obtain ⟨rfl, rfl⟩ := y
    obtain ⟨_, rfl⟩ := range_at hx
    exact ⟨F, Same.refl _, R, .int _⟩
  stop := fun i G F H M s R _ hl => by
    rw [List.length_map, List.length_range] at hl
    exact hl
theorem qi_range3 {a b c : Expr} (hm : X.mg "range" = none) (ha : QA X E Et [a, b, c] ta) (hg : Gl X "range" := by rfl)
    (hs : starEach [a, b, c] X.env = (false, eval a X.env) :: starEach [b, c] X.env := by rfl) (hpl : (backTo pos (starEach [b, c] X.env)).any (·.1) = false := by rfl) : QI X E Et tg (.Call (.Name "range" p) [a, b, c] [] pos) (iR3 ta) := by
  refine ⟨fun pins s σ H R I h => (pi_range3 hg hm ha hs hpl).run pins s σ H R I ?_⟩
  obtain ⟨G, F, M, τ, Qt, a, h, k⟩ := h
  refine ⟨G, F, M, τ, _, a, h, fun vs F1 H1 M1 ds s1 r1 p1 q1 => ?_⟩
  match ds, p1, q1 with
  | [.int i, .int j, .int c], .cons h1 (.cons h2 (.cons h3 .nil)), q1 =>
    cases h1
    cases h2
    cases h3
    obtain ⟨n, b, q1⟩ := q1
    exact ⟨i, j, c, n, rfl, b, k _ _ F1 H1 M1 s1 r1 itOk_rangeC q1⟩
theorem itOk_str {K : PySem.W.Frag} {F0 : Hp} {z : Str} : ItOk K F0 (L2.Its z) ⟨z.cps.toList.map fun c => .str ⟨#[c]⟩, fun _ => True⟩ where
  go := fun i G F H M x s R _ hx => by
    have := (List.getElem?_eq_some_iff.mp hx).1
    rw [List.length_map] at this
    show i < z.cps.size
    simpa using this
  yld := fun i G F H M x v H' s R _ hx y => by
    obtain ⟨rfl, c, hc, rfl⟩ := y
    have hx : (z.cps.toList.map fun c => D.str ⟨#[c]⟩)[i]? = some x := hx
    rw [List.getElem?_map, Array.getElem?_toList, hc] at hx
    cases hx
    exact ⟨F, Same.refl _, R, .str _⟩
  stop := fun i G F H M s R _ hl => by
    have hl : (z.cps.toList.map fun c => D.str ⟨#[c]⟩).length ≤ i := hl
    rw [List.length_map] at hl
    show z.cps.size ≤ i
    simpa using hl
theorem qi_str (he : QE X E Et e te) : QI X E Et tg e (iSt te) := by
  refine ⟨fun pins s σ H R I h => (pi_str he).run pins s σ H R I ?_⟩
  obtain ⟨G, F, M, τ, Qt, a, h, k⟩ := h
  refine ⟨G, F, M, τ, _, a, h, fun v F1 H1 M1 d s1 r1 p1 q1 => ?_⟩
  cases p1 <;> first | exact (show False from q1).elim | exact ⟨_, rfl, k _ _ F1 H1 M1 s1 r1 itOk_str q1⟩
theorem itOk_rev {K : PySem.W.Frag} {F0 : Hp} {a : Addr} {d : D} {ds : List D} (p : Rp K F0 (.ref a) d) : ItOk K F0 (Itv K a ds.length) ⟨ds.reverse, fun M => lstOf M d = some ds⟩ where
  go := fun i G F H M x s R h hx => by
    obtain ⟨b, vs, e, hs, r⟩ := lst_of R (p.mono s) h
    cases e
    have hx : ds.reverse[i]? = some x := hx
    have hi := (List.getElem?_eq_some_iff.mp hx).1
    rw [List.length_reverse] at hi
    rw [List.getElem?_reverse hi] at hx
    obtain ⟨v, hv, _⟩ := r.getD hx
    exact ⟨hi, vs, v, hs, hv⟩
  yld := fun i G F H M x v H' s R h hx y => by
    obtain ⟨b, vs, e, hs, r⟩ := lst_of R (p.mono s) h
    cases e
    have hx : ds.reverse[i]? = some x := hx
    have hi := (List.getElem?_eq_some_iff.mp hx).1
    rw [List.length_reverse] at hi
    rw [List.getElem?_reverse hi] at hx
    obtain ⟨v', hv, rv⟩ := r.getD hx
    obtain ⟨rfl, f⟩ := y
    have e1 := Option.some.inj ((f _ hs).symm.trans hv)
    subst e1
    exact ⟨F, Same.refl _, R, rv⟩
  stop := fun i G F H M s R h hl => by
    have hl : ds.reverse.length ≤ i := hl
    rw [List.length_reverse] at hl
    exact hl
theorem qi_rev (hm : X.mg "reversed" = none) (ha : QA X E Et [e] ta) (hg : Gl X "reversed" := by rfl) (hs : starEach [e] X.env = [(false, eval e X.env)] := by rfl) : QI X E Et tg (.Call (.Name "reversed" p) [e] [] pos) (iRv ta) := by
  refine ⟨fun pins s σ H R I h => (pi_reversed hg hm ha hs).run pins s σ H R I ?_⟩
  obtain ⟨G, F, M, τ, Qt, a, h, k⟩ := h
  refine ⟨G, F, M, τ, _, a, h, fun vs F1 H1 M1 ds s1 r1 p1 q1 => ?_⟩
  match ds, p1, q1 with
  | [d], .cons h1 .nil, q1 =>
    have q1 : (match lstOf M1 d with | some xs => Qt ⟨xs.reverse, fun M => lstOf M d = some xs⟩ M1 | none => False) := q1
    cases q : lstOf M1 d with
    | none => rw [q] at q1; exact q1.elim
    | some xs =>
      rw [q] at q1
      obtain ⟨b, vs, rfl, hs, r⟩ := lst_of r1 h1 q
      exact ⟨b, vs, rfl, hs, by rw [r.length]; exact k _ _ F1 H1 M1 s1 r1 (itOk_rev h1) q1⟩
end
/-! ### list methods, stores -/
/-- a list of the program's own, frozen or not -/
def trkOf (M : MH) : D → Option (List D)
  | .lst ds => some ds
  | .ref a => match M a with
    | some (.lst ds) => some ds
    | _ => none
  | _ => none
theorem trk_of {K : PySem.W.Frag} {G F H : Hp} {M : MH} {v : V} {d : D} {ds : List D} (R : Rel K G F H M) (p : Rp K F v d) (e : trkOf M d = some ds) : ∃ a vs, v = .ref a ∧ H a = some (.lst vs) ∧ Rps K F vs ds := by
  cases p with
  | lst h r =>
    cases e
    exact ⟨_, _, rfl, R.sub _ _ h, r⟩
  | ref a =>
    unfold trkOf at e
    cases q : M a with
    | none => simp only [q] at e; cases e
    | some o =>
      simp only [q] at e
      obtain ⟨_, u, hu, r⟩ := R.chg a o q
      cases o with
      | lst xs =>
        cases e
        cases u with
        | lst vs => exact ⟨a, vs, rfl, hu, r⟩
        | _ => exact (r : False).elim
      | _ => cases e
  | _ => cases e
def mExtend : RMt := fun x xs M Q => match x, xs with
  | .ref l, [y] => match M l with
    | some (.lst ds) => match trkOf M y with
      | some es => ds.length + es.length ≤ sizeLine ∧ Q .non (mup M l (.lst (ds ++ es)))
      | none => False
    | _ => False
  | _, _ => False
def mPop : RMt := fun x xs M Q => match x, xs with
  | .ref l, [] => match M l with
    | some (.lst ds) => match ds.getLast? with
      | some y => Q y (mup M l (.lst ds.dropLast))
      | none => False
    | _ => False
  | _, _ => False
section
variable {X : Cx} {E : XK} {Et : XT} {o e : Expr} {es : List Expr} {to : TEt} {t : TAt} {apos cpos : Pos}
theorem chg_lst {K : PySem.W.Frag} {G F H : Hp} {M : MH} {l : Addr} {ds : List D} (R : Rel K G F H M) (q : M l = some (.lst ds)) : ∃ vs, H l = some (.lst vs) ∧ Rps K F vs ds := by
  obtain ⟨_, u, hu, r⟩ := R.chg l _ q
  cases u with
  | lst vs => exact ⟨vs, hu, r⟩
  | _ => exact (r : False).elim
theorem q_extend (ho : QE X E Et o to) (ha : QA X E Et (e :: es) t)
    (hbase : attributeBase o "extend" X.env (eval o X.env) = eval o X.env := by rfl)
    (hfew : ((backTo cpos (starEach (e :: es) X.env)).all (fun x => !x.1) && (backToKw cpos (keywordEach [] X.env)).all (fun x => x.1.isSome)
      && decide ((e :: es).length + ([] : List Keyword).length + (if ([] : List Keyword).isEmpty then 0 else 1) < 30)) = true := by rfl)
    (hline : (apos.endLine == cpos.line) = true := by rfl) (hs : starEach (e :: es) X.env = (false, eval e X.env) :: starEach es X.env := by rfl) (hplain : (backTo cpos (starEach es X.env)).any (·.1) = false := by rfl) :
    QE X E Et (.Call (.Attribute o "extend" apos) (e :: es) [] cpos) (tMt mExtend to t) :=
  PEimp (pe_bm PySem.F.plainAttrs_list PySem.F.slot_list_extend PySem.F.type_list_extend mt_extend ho ha hbase hfew hline hs hplain) (lv_bm (by
    rintro x xs H Q ⟨G, F, M, dx, ds, Qt, R, p, ps, h, k⟩
    match dx, ds, p, ps, h with
    | .ref l, [y], .ref _, .cons py .nil, h =>
      have h : (match M l with | some (.lst ds) => (match trkOf M y with | some es => ds.length + es.length ≤ sizeLine ∧ Qt .non (mup M l (.lst (ds ++ es))) | none => False) | _ => False) := h
      cases q : M l with
      | none => simp only [q] at h
      | some mo =>
        cases mo with
        | lst ds =>
          simp only [q] at h
          obtain ⟨vs, hu, r⟩ := chg_lst R q
          cases qb : trkOf M y with
          | none => rw [qb] at h; exact h.elim
          | some es =>
            rw [qb] at h
            obtain ⟨b, ws, rfl, hb, rb⟩ := trk_of R py qb
            refine ⟨l, b, vs, ws, rfl, rfl, hu, hb, by rw [r.length, rb.length]; exact h.1, ?_⟩
            exact k .non F _ _ .non (Same.refl _) (R.put (u := .lst (vs ++ ws)) (o := .lst (ds ++ es)) q (r.append rb)) .non h.2
        | _ => simp only [q] at h))
theorem q_pop (ho : QE X E Et o to) (hbase : attributeBase o "pop" X.env (eval o X.env) = eval o X.env := by rfl) (hline : (apos.endLine == cpos.line) = true := by rfl) : QE X E Et (.Call (.Attribute o "pop" apos) [] [] cpos) (tMt0 mPop to) :=
  PEimp (pe_bm0 PySem.F.plainAttrs_list PySem.F.slot_list_pop PySem.F.type_list_pop mt_pop ho hbase hline) (lv_bm0 (by
    rintro x xs H Q ⟨G, F, M, dx, ds, Qt, R, p, ps, h, k⟩
    match dx, ds, p, ps, h with
    | .ref l, [], .ref _, .nil, h =>
      have h : (match M l with | some (.lst ds) => (match ds.getLast? with | some y => Qt y (mup M l (.lst ds.dropLast)) | none => False) | _ => False) := h
      cases q : M l with
      | none => simp only [q] at h
      | some mo =>
        cases mo with
        | lst ds =>
          simp only [q] at h
          obtain ⟨vs, hu, r⟩ := chg_lst R q
          cases q2 : ds.getLast? with
          | none => rw [q2] at h; exact h.elim
          | some y =>
            rw [q2] at h
            rw [List.getLast?_eq_getElem?] at q2
            obtain ⟨v, hv, rv⟩ := r.getD q2
            refine ⟨l, vs, v, rfl, rfl, hu, by rw [r.length]; exact hv, ?_⟩
            exact k v F _ _ y (Same.refl _) (R.put (u := .lst vs.dropLast) (o := .lst ds.dropLast) q r.dropLast) rv h
        | _ => simp only [q] at h))
/-- l[i] = v -/
def zList : TSett := fun o i v M Q => match o, i with
  | .ref l, .int k => match M l with
    | some (.lst ds) => match ixN ds.length k with
      | some j => Q (mup M l (.lst (ds.set j v)))
      | none => False
    | _ => False
  | _, _ => False
theorem sq_list : PSet X (lSet X.K zList) := by
  intro pins s σ H o i v ov iv u Q I ro ri rv h
  obtain ⟨G, F, M, od, idd, vd, Qt, R, po, pi, pv, h, k⟩ := h
  match od, idd, po, pi, h with
  | .ref l, .int z, .ref _, .int _, h =>
    have h : (match M l with | some (.lst ds) => (match ixN ds.length z with | some j => Qt (mup M l (.lst (ds.set j vd))) | none => False) | _ => False) := h
    cases q : M l with
    | none => simp only [q] at h
    | some mo =>
      cases mo with
      | lst ds =>
        simp only [q] at h
        obtain ⟨vs, hu, r⟩ := chg_lst R q
        cases q2 : ixN ds.length z with
        | none => rw [q2] at h; exact h.elim
        | some j =>
          rw [q2] at h
          refine set_list pins s σ H _ _ v ov iv u Q I ro ri rv ⟨l, vs, z, j, rfl, rfl, hu, by rw [r.length]; exact q2, ?_⟩
          exact k F _ _ (Same.refl _) (R.put (u := .lst (vs.set j v)) (o := .lst (ds.set j vd)) q (r.set pv j)) h
      | _ => simp only [q] at h
end
end Tl

namespace Tl
open PySem PySem.Spec PyProof.Rows L2
/-! ### the readings, unfolded as far as the values are known -/
def oBl (x : D) (k : Bool → Prop) : Prop := match x with
  | .bl c => k c
  | _ => False
def oInt (x : D) (k : Int → Prop) : Prop := match x with
  | .int c => k c
  | _ => False
def oStr (x : D) (k : Str → Prop) : Prop := match x with
  | .str c => k c
  | _ => False
def oTup (x : D) (k : List D → Prop) : Prop := match x with
  | .tup c => k c
  | _ => False
def oSome {α : Type} (x : Option α) (k : α → Prop) : Prop := match x with
  | some c => k c
  | none => False
theorem oBl_i {c : Bool} {k : Bool → Prop} : oBl (.bl c) k = k c := rfl
theorem oInt_i {c : Int} {k : Int → Prop} : oInt (.int c) k = k c := rfl
theorem oStr_i {c : Str} {k : Str → Prop} : oStr (.str c) k = k c := rfl
theorem oTup_i {c : List D} {k : List D → Prop} : oTup (.tup c) k = k c := rfl
theorem oSome_i {α : Type} {c : α} {k : α → Prop} : oSome (some c) k = k c := rfl
theorem oBl_if {p : Prop} [Decidable p] {a b : D} {k : Bool → Prop} : oBl (if p then a else b) k = if p then oBl a k else oBl b k := by split <;> rfl
section
variable {τ : Sg} {M : MH} {Q : VD} {D0 : En} {t u : TSt} {te ta tb : TEt} {tt : TTt} {x y : D} {ds : List D} {n i : Nat} {k : Int} {g : TGt} {gs : TGst} {Qg : Sg → MH → Prop} {QI : Its → MH → Prop} {QO : Option Int → MH → Prop} {QB : Bool → MH → Prop} {tA : TAt} {lo hi : Option Int}
theorem uV : tV i τ M Q = oSome (nth τ i) fun d => Q d M := by unfold tV oSome; cases nth τ i <;> rfl
theorem uBo : tBo te τ M QB = te τ M fun x M1 => oBl x fun c => QB c M1 := by
  unfold tBo oBl
  first | rfl | (congr; first | rfl | (funext x M1; cases x <;> rfl))
theorem uAnV : tAnV ta tb τ M Q = ta τ M fun x M1 => oBl x fun c => if c = true then tb τ M1 Q else Q (.bl false) M1 := by
  unfold tAnV oBl
  first | rfl | (congr; first | rfl | (funext x M1; cases x <;> rfl))
theorem uOrV : tOrV' ta tb τ M Q = ta τ M fun x M1 => oBl x fun c => if c = true then Q (.bl true) M1 else tb τ M1 Q := by
  unfold tOrV' oBl
  first | rfl | (congr; first | rfl | (funext x M1; cases x <;> rfl))
theorem uNoV : tNoV ta τ M Q = ta τ M fun x M1 => oBl x fun c => Q (.bl (!c)) M1 := by
  unfold tNoV oBl
  first | rfl | (congr; first | rfl | (funext x M1; cases x <;> rfl))
theorem uCh {r r' : R2t} {tc : TEt} : tCh r r' ta tb tc τ M Q = ta τ M fun x M1 => tb τ M1 fun y M2 => r x y M2 fun z M3 => oBl z fun k => if k = true then tc τ M3 fun w M4 => r' y w M4 Q else Q (.bl false) M3 := by
  unfold tCh oBl
  first | rfl | (congr; funext x M1; congr; funext y M2; congr; funext z M3; cases z <;> rfl)
theorem uNl0 : gNl [] τ M Qg = Qg τ M := rfl
theorem uCs1 : gCs g gs (x :: ds) τ M Qg = g x τ M fun τ' M' => gs ds τ' M' Qg := rfl
theorem uTp : gTp n gs x τ M Qg = oTup x fun ds => ds.length = n ∧ gs ds τ M Qg := by unfold gTp oTup; cases x <;> rfl
theorem uAg {r : R2t} : sAg i te r D0 τ M = oSome (nth τ i) fun x => te τ M fun y M1 => r x y M1 fun z M2 => D0.nx (τ.set i (some z)) M2 := by unfold sAg oSome; cases nth τ i <;> rfl
theorem uInt {C : Int → Int → Prop} {h : Int → Int → D} : bInt C h x y M Q = oInt x fun i => oInt y fun j => C i j ∧ Q (h i j) M := by unfold bInt oInt; cases x <;> cases y <;> rfl
theorem uInt0 {h : Int → Int → D} : bInt0 h x y M Q = oInt x fun i => oInt y fun j => Q (h i j) M := by unfold bInt0 oInt; cases x <;> cases y <;> rfl
theorem uNegI : uNeg x M Q = oInt x fun i => Q (.int (-i)) M := by unfold uNeg oInt; cases x <;> rfl
theorem uEq : bEq x y M Q = oSome (dScal x y) fun b => Q (.bl b) M := by unfold bEq oSome; cases dScal x y <;> rfl
theorem uNe : bNe x y M Q = oSome (dScal x y) fun b => Q (.bl (!b)) M := by unfold bNe oSome; cases dScal x y <;> rfl
theorem dScal_ii {a b : Int} : dScal (.int a) (.int b) = some (decide (a = b)) := rfl
theorem dScal_ss {a b : Str} : dScal (.str a) (.str b) = some (decide (a = b)) := rfl
theorem dScal_bb {a b : Bool} : dScal (.bl a) (.bl b) = some (decide (a = b)) := rfl
theorem dScal_nn : dScal .non .non = some true := rfl
theorem dScal_ni {a : Int} : dScal .non (.int a) = some false := rfl
theorem dScal_in {a : Int} : dScal (.int a) .non = some false := rfl
theorem dScal_is {a : Int} {s : Str} : dScal (.int a) (.str s) = some false := rfl
theorem dScal_si {a : Int} {s : Str} : dScal (.str s) (.int a) = some false := rfl
theorem uIsN : bIsN x .non M Q = Q (.bl (isNonD x)) M := rfl
theorem uNotN : bNotN x .non M Q = Q (.bl (!isNonD x)) M := rfl
theorem nonD_n : isNonD .non = true := rfl
theorem nonD_i {a : Int} : isNonD (.int a) = false := rfl
theorem nonD_s {a : Str} : isNonD (.str a) = false := rfl
theorem nonD_t {a : List D} : isNonD (.tup a) = false := rfl
theorem nonD_l {a : List D} : isNonD (.lst a) = false := rfl
theorem nonD_b {a : Bool} : isNonD (.bl a) = false := rfl
theorem nonD_r {a : Addr} : isNonD (.ref a) = false := rfl
theorem uCatS : bCatS x y M Q = oStr x fun a => oStr y fun b => a.length + b.length ≤ 16777216 ∧ Q (.str (a ++ b)) M := by unfold bCatS oStr; rw [sizeLine_eq]; cases x <;> cases y <;> rfl
theorem uCatL : bCatL x y M Q = oSome (lstOf M x) fun a => oSome (lstOf M y) fun b => a.length + b.length ≤ 16777216 ∧ Q (.lst (a ++ b)) M := by unfold bCatL oSome; rw [sizeLine_eq]; cases lstOf M x <;> cases lstOf M y <;> rfl
theorem uCatM : bCatM x y M Q = oSome (lstOf M x) fun a => oSome (lstOf M y) fun b => a.length + b.length ≤ 16777216 ∧ ∀ p, M p = none → Q (.ref p) (mup M p (.lst (a ++ b))) := by unfold bCatM oSome; rw [sizeLine_eq]; cases lstOf M x <;> cases lstOf M y <;> rfl
theorem lstOf_l : lstOf M (.lst ds) = some ds := rfl
theorem lstOf_c : lstOf M (.scr ds) = some ds := rfl
theorem lstOf_m {a : Addr} : lstOf (mup M a (.lst ds)) (.ref a) = some ds := by simp only [lstOf, mup_same]
theorem lstOf_at {a : Addr} (h : M a = some (.lst ds)) : lstOf M (.ref a) = some ds := by simp only [lstOf, h]
theorem trkOf_l : trkOf M (.lst ds) = some ds := rfl
theorem trkOf_m {a : Addr} : trkOf (mup M a (.lst ds)) (.ref a) = some ds := by simp only [trkOf, mup_same]
theorem trkOf_at {a : Addr} (h : M a = some (.lst ds)) : trkOf M (.ref a) = some ds := by simp only [trkOf, h]
theorem tupOf_t : tupOf (.tup ds) = some ds := rfl
theorem tupOf_b : tupOf (.tab ds) = some ds := rfl
theorem seqOf_t : seqOf M (.tup ds) = some ds := rfl
theorem seqOf_b : seqOf M (.tab ds) = some ds := rfl
theorem seqOf_l : seqOf M (.lst ds) = some ds := rfl
theorem seqOf_c : seqOf M (.scr ds) = some ds := rfl
theorem seqOf_r {a : Addr} : seqOf M (.ref a) = lstOf M (.ref a) := rfl
theorem uIx_t : bIx (.tup ds) (.int k) M Q = oSome (atI ds k) fun d => Q d M := by
  show (match atI ds k with | some d => Q d M | none => False) = _
  unfold oSome; cases atI ds k <;> rfl
theorem uIx_b : bIx (.tab ds) (.int k) M Q = oSome (atI ds k) fun d => Q d M := by
  show (match atI ds k with | some d => Q d M | none => False) = _
  unfold oSome; cases atI ds k <;> rfl
theorem uIx_l : bIx (.lst ds) (.int k) M Q = oSome (atI ds k) fun d => Q d M := by
  show (match atI ds k with | some d => Q d M | none => False) = _
  unfold oSome; cases atI ds k <;> rfl
theorem uIx_c : bIx (.scr ds) (.int k) M Q = oSome (atI ds k) fun d => Q d M := by
  show (match atI ds k with | some d => Q d M | none => False) = _
  unfold oSome; cases atI ds k <;> rfl
theorem uIx_s {z : Str} : bIx (.str z) (.int k) M Q = (z.length ≤ 16777216 ∧ oSome (atI z.cps.toList k) fun c => Q (.str ⟨#[c]⟩) M) := by
  show (z.length ≤ sizeLine ∧ match atI z.cps.toList k with | some c => Q (.str ⟨#[c]⟩) M | none => False) = _
  unfold oSome; rw [sizeLine_eq]; cases atI z.cps.toList k <;> rfl
theorem uIx_r {a : Addr} : bIx (.ref a) (.int k) M Q = oSome (lstOf M (.ref a)) fun ds => oSome (atI ds k) fun d => Q d M := by
  show (match lstOf M (.ref a) with | some ds => (match atI ds k with | some d => Q d M | none => False) | none => False) = _
  unfold oSome
  cases lstOf M (.ref a) with
  | none => rfl
  | some ds => cases h : atI ds k <;> simp [h]
theorem uYes : oYes te τ M QO = te τ M fun d M1 => oInt d fun i => QO (some i) M1 := by
  unfold oYes oInt
  first | rfl | (congr; first | rfl | (funext x M1; cases x <;> rfl))
theorem uSlL : cSlL x lo hi M Q = oSome (lstOf M x) fun ds => Q (.lst (cutD ds lo hi)) M := by unfold cSlL oSome; cases lstOf M x <;> rfl
theorem uSlM : cSlM x lo hi M Q = oSome (lstOf M x) fun ds => ∀ p, M p = none → Q (.ref p) (mup M p (.lst (cutD ds lo hi))) := by unfold cSlM oSome; cases lstOf M x <;> rfl
theorem uSlS : cSlS x lo hi M Q = oStr x fun z => z.length ≤ 16777216 ∧ Q (.str (cutS z lo hi)) M := by unfold cSlS oStr; rw [sizeLine_eq] <;> (cases x <;> rfl)
theorem uIsi {T : String} : cIsi [x, .ty T] M Q = oSome (dTy M x) fun t => oSome (kitB t T) fun b => Q (.bl b) M := by
  show (match dTy M x with | some t => (match kitB t T with | some b => Q (.bl b) M | none => False) | none => False) = _
  unfold oSome
  cases dTy M x with
  | none => rfl
  | some t => cases h : kitB t T <;> simp [h]
theorem dTy_n : dTy M .non = some "NoneType" := rfl
theorem dTy_b {b : Bool} : dTy M (.bl b) = some "bool" := rfl
theorem dTy_i {i : Int} : dTy M (.int i) = some "int" := rfl
theorem dTy_s {s : Str} : dTy M (.str s) = some "str" := rfl
theorem dTy_t : dTy M (.tup ds) = some "tuple" := rfl
theorem dTy_l : dTy M (.lst ds) = some "list" := rfl
theorem dTy_d {a : Addr} {kvs : List (List Key × D)} (h : M a = some (.dT kvs)) : dTy M (.ref a) = some "dict" := by simp only [dTy, h]
theorem uLen : cLen [x] M Q = oSome (lenOf M x) fun n => Q (.int (n : Int)) M := by
  show (match lenOf M x with | some n => Q (.int (n : Int)) M | none => False) = _
  unfold oSome; cases lenOf M x <;> rfl
theorem lenOf_t : lenOf M (.tup ds) = some ds.length := rfl
theorem lenOf_b : lenOf M (.tab ds) = some ds.length := rfl
theorem lenOf_l : lenOf M (.lst ds) = some ds.length := rfl
theorem lenOf_c : lenOf M (.scr ds) = some ds.length := rfl
theorem lenOf_m {a : Addr} : lenOf (mup M a (.lst ds)) (.ref a) = some ds.length := by simp only [lenOf, mup_same]
theorem lenOf_at {a : Addr} (h : M a = some (.lst ds)) : lenOf M (.ref a) = some ds.length := by simp only [lenOf, h]
theorem lenOf_s {z : Str} (h : z.length ≤ 16777216) : lenOf M (.str z) = some z.length := by
  unfold lenOf; rw [sizeLine_eq]; exact if_pos h
theorem uIntI {i : Int} : cInt [.int i] M Q = Q (.int i) M := rfl
theorem uIntB {b : Bool} : cInt [.bl b] M Q = Q (.int (if b then 1 else 0)) M := rfl
theorem uLs : iLs te τ M QI = te τ M fun d M1 => oSome (lstOf M1 d) fun ds => QI ⟨ds, fun M => lstOf M d = some ds⟩ M1 := by
  unfold iLs oSome
  first | rfl | (congr; funext d M1; cases lstOf M1 d <;> rfl)
theorem uTu : iTu te τ M QI = te τ M fun d M1 => oSome (tupOf d) fun ds => QI ⟨ds, fun _ => True⟩ M1 := by
  unfold iTu oSome
  first | rfl | (congr; funext d M1; cases tupOf d <;> rfl)
def oL1 (ds : List D) (k : D → Prop) : Prop := match ds with
  | [x] => k x
  | _ => False
def oL2 (ds : List D) (k : D → D → Prop) : Prop := match ds with
  | [x, y] => k x y
  | _ => False
def oL3 (ds : List D) (k : D → D → D → Prop) : Prop := match ds with
  | [x, y, z] => k x y z
  | _ => False
theorem oL1_i {x : D} {k : D → Prop} : oL1 [x] k = k x := rfl
theorem oL2_i {x y : D} {k : D → D → Prop} : oL2 [x, y] k = k x y := rfl
theorem oL3_i {x y z : D} {k : D → D → D → Prop} : oL3 [x, y, z] k = k x y z := rfl
theorem uR1 : iR1 tA τ M QI = tA τ M fun ds M1 => oL1 ds fun d => oInt d fun j => (-4611686018427387904 ≤ j ∧ j < 4611686018427387904) ∧ QI ⟨(List.range j.toNat).map fun i => .int (i : Nat), fun _ => True⟩ M1 := by
  unfold iR1
  congr; funext ds M1
  rcases ds with _ | ⟨d, _ | ⟨e, r⟩⟩
  · rfl
  · cases d <;> rfl
  · cases d <;> rfl
theorem uR2 : iR2 tA τ M QI = tA τ M fun ds M1 => oL2 ds fun d e => oInt d fun i => oInt e fun j => (-4611686018427387904 ≤ i ∧ i < 4611686018427387904 ∧ -4611686018427387904 ≤ j ∧ j < 4611686018427387904) ∧ QI ⟨(List.range (j - i).toNat).map fun k => .int (i + (k : Nat)), fun _ => True⟩ M1 := by
  unfold iR2
  congr; funext ds M1
  rcases ds with _ | ⟨d, _ | ⟨e, _ | ⟨f, r⟩⟩⟩
  · rfl
  · cases d <;> rfl
  · cases d <;> cases e <;> rfl
  · cases d <;> cases e <;> rfl
theorem uR3 : iR3 tA τ M QI = tA τ M fun ds M1 => oL3 ds fun d e f => oInt d fun i => oInt e fun j => oInt f fun c => ∃ n, RgC i j c n ∧ QI ⟨(List.range n).map fun k => .int (i + (k : Nat) * c), fun _ => True⟩ M1 := by
  unfold iR3
  congr; funext ds M1
  rcases ds with _ | ⟨d, _ | ⟨e, _ | ⟨f, _ | ⟨f2, r⟩⟩⟩⟩
  · rfl
  · cases d <;> rfl
  · cases d <;> cases e <;> rfl
  · cases d <;> cases e <;> cases f <;> rfl
  · cases d <;> cases e <;> cases f <;> rfl
theorem uEn : iEn tA τ M QI = tA τ M fun ds M1 => oL1 ds fun d => oSome (lstOf M1 d) fun xs => QI ⟨enumD xs, fun M => lstOf M d = some xs⟩ M1 := by
  unfold iEn
  congr; funext ds M1
  rcases ds with _ | ⟨d, _ | ⟨e, r⟩⟩
  · rfl
  · simp only [oL1, oSome]; cases lstOf M1 d <;> rfl
  · rfl
theorem uZi : iZi tA τ M QI = tA τ M fun ds M1 => oL2 ds fun d e => oSome (lstOf M1 d) fun xs => oSome (lstOf M1 e) fun ys => QI ⟨zipD xs ys, fun M => lstOf M d = some xs ∧ lstOf M e = some ys⟩ M1 := by
  unfold iZi
  congr; funext ds M1
  rcases ds with _ | ⟨d, _ | ⟨e, _ | ⟨f, r⟩⟩⟩
  · rfl
  · rfl
  · simp only [oL2, oSome]; cases lstOf M1 d <;> cases lstOf M1 e <;> rfl
  · rfl
theorem uSt : iSt te τ M QI = te τ M fun d M1 => oStr d fun z => QI ⟨z.cps.toList.map fun c => .str ⟨#[c]⟩, fun _ => True⟩ M1 := by
  unfold iSt oStr
  first | rfl | (congr; first | rfl | (funext x M1; cases x <;> rfl))
theorem uRv : iRv tA τ M QI = tA τ M fun ds M1 => oL1 ds fun d => oSome (lstOf M1 d) fun xs => QI ⟨xs.reverse, fun M => lstOf M d = some xs⟩ M1 := by
  unfold iRv
  congr; funext ds M1
  rcases ds with _ | ⟨d, _ | ⟨e, r⟩⟩
  · rfl
  · simp only [oL1, oSome]; cases lstOf M1 d <;> rfl
  · rfl
theorem uDivmod : cDivmod [x, y] M Q = oInt x fun i => oInt y fun j => CDivZ i j ∧ Q (.tup [.int (i.fdiv j), .int (i.fmod j)]) M := by unfold oInt; cases x <;> cases y <;> rfl
theorem uList : cList [x] M Q = oSome (seqOf M x) fun es => Q (.lst es) M := by
  show (match seqOf M x with | some es => Q (.lst es) M | none => False) = _
  unfold oSome; cases seqOf M x <;> rfl
theorem uListM : cListM [x] M Q = oSome (seqOf M x) fun es => ∀ p, M p = none → Q (.ref p) (mup M p (.lst es)) := by
  show (match seqOf M x with | some es => ∀ p, M p = none → Q (.ref p) (mup M p (.lst es)) | none => False) = _
  unfold oSome; cases seqOf M x <;> rfl
theorem uSum : cSum [x] M Q = oSome (intLst M x) fun is => Q (.int is.sum) M := by
  show (match intLst M x with | some is => Q (.int is.sum) M | none => False) = _
  unfold oSome; cases intLst M x <;> rfl
theorem uMax : cMax [x] M Q = oSome (intLst M x) fun is => 0 < is.length ∧ ∀ m, m ∈ is → (∀ y, y ∈ is → y ≤ m) → Q (.int m) M := by
  show (match intLst M x with | some is => 0 < is.length ∧ ∀ m, m ∈ is → (∀ y, y ∈ is → y ≤ m) → Q (.int m) M | none => False) = _
  unfold oSome; cases intLst M x <;> rfl
theorem uMin : cMin [x] M Q = oSome (intLst M x) fun is => 0 < is.length ∧ ∀ m, m ∈ is → (∀ y, y ∈ is → m ≤ y) → Q (.int m) M := by
  show (match intLst M x with | some is => 0 < is.length ∧ ∀ m, m ∈ is → (∀ y, y ∈ is → m ≤ y) → Q (.int m) M | none => False) = _
  unfold oSome; cases intLst M x <;> rfl
theorem intLst_l {is : List Int} : intLst M (.lst (is.map D.int)) = some is := intsD_map is
theorem intLst_c {is : List Int} : intLst M (.scr (is.map D.int)) = some is := intsD_map is
theorem blLst_l {is : List Bool} : blLst M (.lst (is.map D.bl)) = some is := blsD_map is
theorem uMax2 : cMax2 [x, y] M Q = oInt x fun i => oInt y fun j => Q (.int (if j > i then j else i)) M := by unfold oInt; cases x <;> cases y <;> rfl
theorem uMin2 : cMin2 [x, y] M Q = oInt x fun i => oInt y fun j => Q (.int (if j < i then j else i)) M := by unfold oInt; cases x <;> cases y <;> rfl
theorem uAbs : cAbs [x] M Q = oInt x fun i => Q (.int (if i < 0 then -i else i)) M := by unfold oInt; cases x <;> rfl
theorem uAny : cAny [x] M Q = oSome (blLst M x) fun is => Q (.bl (is.any id)) M := by
  show (match blLst M x with | some is => Q (.bl (is.any id)) M | none => False) = _
  unfold oSome; cases blLst M x <;> rfl
theorem uAll : cAll [x] M Q = oSome (blLst M x) fun is => Q (.bl (is.all id)) M := by
  show (match blLst M x with | some is => Q (.bl (is.all id)) M | none => False) = _
  unfold oSome; cases blLst M x <;> rfl
def mLst (M : MH) (a : Addr) : Option (List D) := match M a with
  | some (.lst ds) => some ds
  | _ => none
theorem mLst_m {a : Addr} : mLst (mup M a (.lst ds)) a = some ds := by unfold mLst; rw [mup_same]
theorem mLst_at {a : Addr} (h : M a = some (.lst ds)) : mLst M a = some ds := by unfold mLst; rw [h]
theorem uAppend {l : Addr} : mAppend (.ref l) [y] M Q = oSome (mLst M l) fun ds => ds.length < 16777216 ∧ Q .non (mup M l (.lst (ds ++ [y]))) := by
  show (match M l with | some (.lst ds) => ds.length < sizeLine ∧ Q .non (mup M l (.lst (ds ++ [y]))) | _ => False) = _
  unfold oSome mLst; rw [sizeLine_eq]
  cases M l with
  | none => rfl
  | some o => cases o <;> rfl
theorem uExtend {l : Addr} : mExtend (.ref l) [y] M Q = oSome (mLst M l) fun ds => oSome (trkOf M y) fun es => ds.length + es.length ≤ 16777216 ∧ Q .non (mup M l (.lst (ds ++ es))) := by
  show (match M l with | some (.lst ds) => (match trkOf M y with | some es => ds.length + es.length ≤ sizeLine ∧ Q .non (mup M l (.lst (ds ++ es))) | none => False) | _ => False) = _
  unfold oSome mLst; rw [sizeLine_eq]
  cases M l with
  | none => rfl
  | some o => cases o <;> first | rfl | (cases h : trkOf M y <;> simp [h])
theorem uPop {l : Addr} : mPop (.ref l) [] M Q = oSome (mLst M l) fun ds => oSome ds.getLast? fun y => Q y (mup M l (.lst ds.dropLast)) := by
  show (match M l with | some (.lst ds) => (match ds.getLast? with | some y => Q y (mup M l (.lst ds.dropLast)) | none => False) | _ => False) = _
  unfold oSome mLst
  cases M l with
  | none => rfl
  | some o =>
    cases o with
    | lst ds => cases h : ds.getLast? <;> simp [h]
    | _ => rfl
theorem uSet {l : Addr} {Qm : MH → Prop} : zList (.ref l) (.int k) y M Qm = oSome (mLst M l) fun ds => oSome (ixN ds.length k) fun j => Qm (mup M l (.lst (ds.set j y))) := by
  show (match M l with | some (.lst ds) => (match ixN ds.length k with | some j => Qm (mup M l (.lst (ds.set j y))) | none => False) | _ => False) = _
  unfold oSome mLst
  cases M l with
  | none => rfl
  | some o =>
    cases o with
    | lst ds => cases h : ixN ds.length k <;> simp [h]
    | _ => rfl
theorem uLcV {ti : TIt} {vs : List Nat} : tLcV ti g tt te vs τ M Q = tLcF ti g tt te vs τ M fun d M1 => (match d with | .lst acc => ∀ p, M1 p = none → Q (.ref p) (mup M1 p (.lst acc)) | _ => False) := rfl
theorem lMt_l : (lstOf M (.lst ds)).isSome = true := rfl
theorem isS_m {a : Addr} : (lstOf (mup M a (.lst ds)) (.ref a)).isSome = true := by rw [lstOf_m]; rfl
theorem atI_0 {α : Type} {x : α} {r : List α} : atI (x :: r) 0 = some x := atI_nat (j := 0) rfl
theorem atI_1 {α : Type} {x y : α} {r : List α} : atI (x :: y :: r) 1 = some y := atI_nat (j := 1) rfl
theorem atI_2 {α : Type} {x y z : α} {r : List α} : atI (x :: y :: z :: r) 2 = some z := atI_nat (j := 2) rfl
theorem atI_3 {α : Type} {x y z a : α} {r : List α} : atI (x :: y :: z :: a :: r) 3 = some a := atI_nat (j := 3) rfl
theorem atI_4 {α : Type} {x y z a b : α} {r : List α} : atI (x :: y :: z :: a :: b :: r) 4 = some b := atI_nat (j := 4) rfl
theorem atI_5 {α : Type} {x y z a b c : α} {r : List α} : atI (x :: y :: z :: a :: b :: c :: r) 5 = some c := atI_nat (j := 5) rfl
end
end Tl

namespace Tl
open PySem PySem.Spec PyProof.Rows L2
/-! ### comprehensions whose turns change nothing -/
/-- what is kept and what it comes to; what is left out -/
inductive Sel {α β : Type} (P : α → β → Prop) (N : α → Prop) : List α → List β → Prop
  | nil : Sel P N [] []
  | keep {x : α} {y : β} {xs : List α} {ys : List β} (h : P x y) (t : Sel P N xs ys) : Sel P N (x :: xs) (y :: ys)
  | drop {x : α} {xs : List α} {ys : List β} (h : N x) (t : Sel P N xs ys) : Sel P N (x :: xs) ys
section
variable {α β : Type} {P : α → β → Prop} {N : α → Prop}
theorem Sel.snoc_keep {xs : List α} {ys : List β} {x : α} {y : β} (h : Sel P N xs ys) (p : P x y) : Sel P N (xs ++ [x]) (ys ++ [y]) := by
  induction h with
  | nil => exact .keep p .nil
  | keep h t ih => exact .keep h ih
  | drop h t ih => exact .drop h ih
theorem Sel.snoc_drop {xs : List α} {ys : List β} {x : α} (h : Sel P N xs ys) (p : N x) : Sel P N (xs ++ [x]) ys := by
  induction h with
  | nil => exact .drop p .nil
  | keep h t ih => exact .keep h ih
  | drop h t ih => exact .drop h ih
theorem Sel.len {xs : List α} {ys : List β} (h : Sel P N xs ys) : ys.length ≤ xs.length := by
  induction h with
  | nil => exact Nat.le_refl _
  | keep h t ih => exact Nat.succ_le_succ ih
  | drop h t ih => exact Nat.le_succ_of_le ih
theorem Sel.map {f : α → β} {xs : List α} {ys : List β} (h : Sel (fun x y => y = f x) (fun _ => False) xs ys) : ys = xs.map f := by
  induction h with
  | nil => rfl
  | keep h t ih => rw [h, ih]; rfl
  | drop h t ih => exact h.elim
theorem Sel.filter {f : α → β} {p : α → Bool} {xs : List α} {ys : List β} (h : Sel (fun x y => p x = true ∧ y = f x) (fun x => p x = false) xs ys) : ys = (xs.filter p).map f := by
  induction h with
  | nil => rfl
  | keep h t ih => rw [List.filter_cons, if_pos h.1, h.2, ih]; rfl
  | drop h t ih => rw [List.filter_cons, if_neg (by rw [h]; decide), ih]
theorem Sel.ex {α β γ : Type} {Pz : α → γ → Prop} {Nz : α → Prop} {a : γ → β} {xs : List α} {ys : List β} (h : Sel (fun x y => ∃ b, y = a b ∧ Pz x b) Nz xs ys) : ∃ bs : List γ, ys = bs.map a ∧ ∀ b ∈ bs, ∃ x ∈ xs, Pz x b := by
  induction h with
  | nil => exact ⟨[], rfl, by simp⟩
  | @keep x y xs ys h t ih =>
    obtain ⟨ms, rfl, h2⟩ := ih
    obtain ⟨n, rfl, hn⟩ := h
    refine ⟨n :: ms, rfl, fun b hb => ?_⟩
    rcases List.mem_cons.mp hb with rfl | hm
    · exact ⟨x, List.mem_cons_self .., hn⟩
    · obtain ⟨x', hx, hp⟩ := h2 b hm
      exact ⟨x', List.mem_cons_of_mem _ hx, hp⟩
  | drop h t ih =>
    obtain ⟨ms, rfl, h2⟩ := ih
    refine ⟨ms, rfl, fun b hb => ?_⟩
    obtain ⟨x', hx, hp⟩ := h2 b hb
    exact ⟨x', List.mem_cons_of_mem _ hx, hp⟩
theorem Sel.all {Z : β → Prop} {xs : List α} {ys : List β} (h : Sel P N xs ys) (hz : ∀ x y, x ∈ xs → P x y → Z y) : ∀ y ∈ ys, Z y := by
  induction h with
  | nil => intro y hy; cases hy
  | keep h t ih =>
    intro y hy
    rcases List.mem_cons.mp hy with e | hy
    · rw [e]; exact hz _ _ (List.mem_cons_self ..) h
    · exact ih (fun x y hx => hz x y (List.mem_cons_of_mem _ hx)) y hy
  | drop h t ih => exact ih (fun x y hx => hz x y (List.mem_cons_of_mem _ hx))
end
section
variable {ti : TIt} {g : TGt} {tt : TTt} {te : TEt} {vs : List Nat} {τ : Sg} {M : MH} {Q : VD}
/-- the rest of a comprehension when its source is known -/
def LcGo (g : TGt) (tt : TTt) (te : TEt) (vs : List Nat) (τ : Sg) (Q : VD) (I : Its) (M1 : MH) : Prop := I.items.length < sizeLine ∧ ∃ W : Nat → List D → MH → Prop, W 0 [] M1 ∧ (∀ i acc M, W i acc M → I.src M ∧ acc.length ≤ i) ∧
  (∀ i x acc M, I.items[i]? = some x → W i acc M → g x (wip τ vs) M fun τ2 M2 => tt τ2 M2 fun b M3 => if b = true then te τ2 M3 fun y M4 => W (i + 1) (acc ++ [y]) M4 else W (i + 1) acc M3) ∧ ∀ acc M, W I.items.length acc M → Q (.lst acc) M
theorem uLcF : tLcF ti g tt te vs τ M Q = ti τ M (LcGo g tt te vs τ Q) := rfl
def asRef (Q : VD) : VD := fun d M1 => match d with
  | .lst acc => ∀ p, M1 p = none → Q (.ref p) (mup M1 p (.lst acc))
  | _ => False
theorem uLcV' : tLcV ti g tt te vs τ M Q = ti τ M (LcGo g tt te vs τ (asRef Q)) := rfl
theorem uAsRef {acc : List D} : asRef Q (.lst acc) M = ∀ p, M p = none → Q (.ref p) (mup M p (.lst acc)) := rfl
/-- a comprehension, from the left: W holds of what was gathered -/
theorem lc_any {I : Its} {M : MH} (W : Nat → List D → MH → Prop) (hz : I.items.length < sizeLine) (w0 : W 0 [] M) (ws : ∀ i acc M, W i acc M → I.src M ∧ acc.length ≤ i)
    (hs : ∀ i x acc M, I.items[i]? = some x → W i acc M → g x (wip τ vs) M fun τ2 M2 => tt τ2 M2 fun b M3 => if b = true then te τ2 M3 fun y M4 => W (i + 1) (acc ++ [y]) M4 else W (i + 1) acc M3) (hd : ∀ acc M, W I.items.length acc M → Q (.lst acc) M) :
    LcGo g tt te vs τ Q I M := ⟨hz, W, w0, ws, hs, hd⟩
theorem lc_sel {I : Its} (P : D → D → Prop) (N : D → Prop) (hz : I.items.length < sizeLine) (hs : I.src M)
    (h : ∀ (i : Nat) (x : D) (R1 : VD) (R0 : MH → Prop), I.items[i]? = some x → (∀ y, P x y → R1 y M) → (N x → R0 M) → g x (wip τ vs) M fun τ2 M2 => tt τ2 M2 fun b M3 => if b = true then te τ2 M3 R1 else R0 M3)
    (k : ∀ acc, Sel P N I.items acc → Q (.lst acc) M) : LcGo g tt te vs τ Q I M := by
  have tk : ∀ {i : Nat} {x : D}, I.items[i]? = some x → I.items.take (i + 1) = I.items.take i ++ [x] := fun {i x} e => by
    rw [List.take_add_one, e]; rfl
  refine ⟨hz, fun i acc M' => M' = M ∧ i ≤ I.items.length ∧ Sel P N (I.items.take i) acc, ⟨rfl, Nat.zero_le _, .nil⟩, ?_, ?_, ?_⟩
  · rintro i acc _ ⟨rfl, hi, s⟩
    have := s.len
    rw [List.length_take] at this
    exact ⟨hs, by omega⟩
  · rintro i x acc _ hx ⟨rfl, hi, s⟩
    have hi' := (List.getElem?_eq_some_iff.mp hx).1
    refine h i x _ _ hx (fun y p => ⟨rfl, hi', ?_⟩) (fun n => ⟨rfl, hi', ?_⟩)
    · rw [tk hx]; exact s.snoc_keep p
    · rw [tk hx]; exact s.snoc_drop n
  · rintro acc _ ⟨rfl, _, s⟩
    rw [List.take_length] at s
    exact k acc s
/-- a comprehension that computes f of each item, and keeps the memory -/
theorem lc_map {I : Its} (xs : List α) (a : α → D) (f : α → D) (hi : I.items = xs.map a) (hz : xs.length < sizeLine) (hs : I.src M)
    (h : ∀ (x : α) (R1 : VD) (R0 : MH → Prop), x ∈ xs → R1 (f x) M → g (a x) (wip τ vs) M fun τ2 M2 => tt τ2 M2 fun b M3 => if b = true then te τ2 M3 R1 else R0 M3)
    (k : Q (.lst (xs.map f)) M) : LcGo g tt te vs τ Q I M := by
  refine ⟨by rw [hi, List.length_map]; exact hz, fun i acc M' => M' = M ∧ acc = (xs.take i).map f, ⟨rfl, by simp⟩, ?_, ?_, ?_⟩
  · rintro i acc _ ⟨rfl, rfl⟩
    exact ⟨hs, by simp only [List.length_map, List.length_take]; omega⟩
  · rintro i x acc _ hx ⟨rfl, rfl⟩
    rw [hi, List.getElem?_map] at hx
    obtain ⟨y, hy, rfl⟩ := Option.map_eq_some_iff.mp hx
    refine h y _ _ (List.mem_of_getElem? hy) ⟨rfl, ?_⟩
    rw [List.take_add_one, hy]; simp
  · rintro acc _ ⟨rfl, rfl⟩
    rw [hi, List.length_map, List.take_length]
    exact k
/-- a comprehension that keeps the items that answer p, and computes f of them -/
theorem lc_filter {I : Its} (xs : List α) (a : α → D) (p : α → Bool) (f : α → D) (hi : I.items = xs.map a) (hz : xs.length < sizeLine) (hs : I.src M)
    (h : ∀ (x : α) (R1 : VD) (R0 : MH → Prop), x ∈ xs → (p x = true → R1 (f x) M) → (p x = false → R0 M) → g (a x) (wip τ vs) M fun τ2 M2 => tt τ2 M2 fun b M3 => if b = true then te τ2 M3 R1 else R0 M3)
    (k : Q (.lst ((xs.filter p).map f)) M) : LcGo g tt te vs τ Q I M := by
  refine ⟨by rw [hi, List.length_map]; exact hz, fun i acc M' => M' = M ∧ acc = ((xs.take i).filter p).map f, ⟨rfl, by simp⟩, ?_, ?_, ?_⟩
  · rintro i acc _ ⟨rfl, rfl⟩
    refine ⟨hs, ?_⟩
    simp only [List.length_map]
    have := List.length_filter_le p (xs.take i)
    rw [List.length_take] at this
    omega
  · rintro i x acc _ hx ⟨rfl, rfl⟩
    rw [hi, List.getElem?_map] at hx
    obtain ⟨y, hy, rfl⟩ := Option.map_eq_some_iff.mp hx
    refine h y _ _ (List.mem_of_getElem? hy) (fun e => ⟨rfl, ?_⟩) fun e => ⟨rfl, ?_⟩
    · rw [List.take_add_one, hy]; simp [List.filter_append, e]
    · rw [List.take_add_one, hy]; simp [List.filter_append, e]
  · rintro acc _ ⟨rfl, rfl⟩
    rw [hi, List.length_map, List.take_length]
    exact k
end
/-- the rest of a loop when its source is known -/
def ForGo (g : TGt) (tb : TSt) (D0 : En) (τ : Sg) (I : Its) (M1 : MH) : Prop := ∃ W : Nat → Sg → MH → Prop, W 0 τ M1 ∧ (∀ i τ M, W i τ M → I.src M) ∧
  (∀ i x τ M, I.items[i]? = some x → W i τ M → g x τ M fun τ2 M2 => tb { D0 with nx := W (i + 1), ct := W (i + 1), bk := D0.nx } τ2 M2) ∧ ∀ τ M, W I.items.length τ M → D0.nx τ M
theorem uFo {ti : TIt} {g : TGt} {tb : TSt} {D0 : En} {τ : Sg} {M : MH} : sFo ti g tb D0 τ M = ti τ M (ForGo g tb D0 τ) := rfl
/-- a loop whose turns keep a word of the slots, from the left; a return on the way ends it -/
theorem for_any {I : Its} {g : TGt} {tb : TSt} {D0 : En} {τ : Sg} {M : MH} (W : Nat → Sg → MH → Prop) (w0 : W 0 τ M) (ws : ∀ i τ M, W i τ M → I.src M)
    (hs : ∀ i x τ M, I.items[i]? = some x → W i τ M → g x τ M fun τ2 M2 => tb { D0 with nx := W (i + 1), ct := W (i + 1), bk := D0.nx } τ2 M2) (hd : ∀ τ M, W I.items.length τ M → D0.nx τ M) :
    ForGo g tb D0 τ I M := ⟨W, w0, ws, hs, hd⟩
/-- the same over a mapped list, the invariant told of what is done -/
theorem for_map {I : Its} {g : TGt} {tb : TSt} {D0 : En} {τ : Sg} {M : MH} (xs : List α) (a : α → D) (hi : I.items = xs.map a) (W : List α → Sg → MH → Prop) (w0 : W [] τ M) (ws : ∀ ys τ M, W ys τ M → I.src M)
    (hs : ∀ ys x zs τ M (Nx : Sg → MH → Prop), xs = ys ++ x :: zs → W ys τ M → (∀ τ' M', W (ys ++ [x]) τ' M' → Nx τ' M') → g (a x) τ M fun τ2 M2 => tb { D0 with nx := Nx, ct := Nx, bk := D0.nx } τ2 M2) (hd : ∀ τ M, W xs τ M → D0.nx τ M) :
    ForGo g tb D0 τ I M := by
  refine ⟨fun i => W (xs.take i), by simpa using w0, fun i τ M w => ws _ τ M w, ?_, ?_⟩
  · intro i x τ M hx w
    rw [hi, List.getElem?_map] at hx
    obtain ⟨y, hy, rfl⟩ := Option.map_eq_some_iff.mp hx
    have hl := (List.getElem?_eq_some_iff.mp hy)
    obtain ⟨h1, h2⟩ := hl
    refine hs (xs.take i) y (xs.drop (i + 1)) τ M _ ?_ w fun τ' M' w' => ?_
    · rw [← h2, List.getElem_cons_drop, List.take_append_drop]
    · show W (xs.take (i + 1)) τ' M'
      rw [List.take_add_one, hy]; exact w'
  · intro τ M w
    refine hd τ M ?_
    rw [hi, List.length_map, List.take_length] at w
    exact w
/-- a while loop with a measure -/
theorem wh_any {c : TTt} {tb : TSt} {D0 : En} {τ : Sg} {M : MH} (W : Nat → Sg → MH → Prop) (m : Nat) (w0 : W m τ M)
    (hs : ∀ m τ M, W m τ M → c τ M fun b M1 => if b = true then tb { D0 with nx := fun τ' M' => ∃ m', m' < m ∧ W m' τ' M', ct := fun τ' M' => ∃ m', m' < m ∧ W m' τ' M', bk := D0.nx } τ M1 else D0.nx τ M1) : sWh c tb D0 τ M := ⟨W, ⟨m, w0⟩, hs⟩
end Tl

namespace Tl
open PySem PySem.Spec PyProof.Rows L2

/-! ### instances -/
def oObj (M : MH) (x : D) (k : Addr → Addr → Addr → List Str → List D → Prop) : Prop := match x with
  | .ref a => match M a with
    | some (.obj C dx fl ds) => k a C dx fl ds
    | _ => False
  | _ => False
theorem oObj_i {M : MH} {a C dx : Addr} {fl : List Str} {ds : List D} {k : Addr → Addr → Addr → List Str → List D → Prop} (h : M a = some (.obj C dx fl ds)) : oObj M (.ref a) k = k a C dx fl ds := by
  unfold oObj; simp only [h]
theorem oObj_e {M : MH} {x : D} {k : Addr → Addr → Addr → List Str → List D → Prop} (h : oObj M x k) : ∃ a C dx fl ds, x = .ref a ∧ M a = some (.obj C dx fl ds) ∧ k a C dx fl ds := by
  unfold oObj at h
  cases x with
  | ref a =>
    cases e : M a with
    | none => simp only [e] at h
    | some o =>
      cases o with
      | obj C dx fl ds => simp only [e] at h; exact ⟨a, C, dx, fl, ds, rfl, e, h⟩
      | _ => simp only [e] at h
  | _ => exact h.elim
theorem RpO_obj {K : PySem.W.Frag} {F : Hp} {u : HO} {C dx : Addr} {fl : List Str} {ds : List D} (r : RpO K F u (.obj C dx fl ds)) : ∃ fs, u = .ins C dx fs ∧ fl.Nodup ∧ fs.map (·.1) = fl.take ds.length ∧ Rps K F (fs.map (·.2)) ds := by
  cases u with
  | ins C1 dx1 fs =>
    obtain ⟨rfl, rfl, nd, hn, rr⟩ := r
    exact ⟨fs, rfl, nd, hn, rr⟩
  | _ => exact (r : False).elim
def nthD : List D → Nat → Option D
  | [], _ => none
  | x :: _, 0 => some x
  | _ :: t, n + 1 => nthD t n
def putD : List D → Nat → D → List D
  | [], _, d => [d]
  | _ :: t, 0, d => d :: t
  | x :: t, n + 1, d => x :: putD t n d
theorem nthD_get : ∀ {l : List D} {i : Nat} {d : D}, nthD l i = some d → l[i]? = some d
  | [], _, _, h => by cases h
  | x :: _, 0, d, h => by rw [List.getElem?_cons_zero]; exact h
  | _ :: t, n + 1, d, h => by rw [List.getElem?_cons_succ]; exact nthD_get (l := t) h
theorem look_at {f : Str} {v : V} : ∀ {fs : List (Str × V)} {i : Nat}, (fs.map (·.1)).Nodup → fs[i]? = some (f, v) → fs.lookup f = some v
  | [], _, _, h => by rw [List.getElem?_nil] at h; cases h
  | (g, x) :: r, 0, _, h => by
    rw [List.getElem?_cons_zero] at h
    cases h
    show (match f == f with | true => some v | false => r.lookup f) = some v
    rw [show (f == f) = true from beq_iff_eq.mpr rfl]
  | (g, x) :: r, n + 1, nd, h => by
    rw [List.getElem?_cons_succ] at h
    have hm : f ∈ r.map (·.1) := List.mem_map.mpr ⟨(f, v), List.mem_of_getElem? h, rfl⟩
    have nd2 := List.nodup_cons.mp (show (g :: r.map (·.1)).Nodup from nd)
    have ne : (f == g) = false := beq_eq_false_iff_ne.mpr fun e => nd2.1 (e ▸ hm)
    show (match f == g with | true => some x | false => r.lookup f) = some v
    rw [ne]
    exact look_at nd2.2 h
theorem look_not {f : Str} : ∀ {fs : List (Str × V)}, f ∉ fs.map (·.1) → fs.lookup f = none
  | [], _ => rfl
  | (g, x) :: r, h => by
    have h2 : f ∉ g :: r.map (·.1) := h
    rw [List.mem_cons, not_or] at h2
    show (match f == g with | true => some x | false => r.lookup f) = none
    rw [show (f == g) = false from beq_eq_false_iff_ne.mpr h2.1]
    exact look_not h2.2
theorem putF_at {f : Str} {v v0 : V} : ∀ {fs : List (Str × V)} {i : Nat}, (fs.map (·.1)).Nodup → fs[i]? = some (f, v0) → putF f v fs = fs.set i (f, v)
  | [], _, _, h => by rw [List.getElem?_nil] at h; cases h
  | (g, x) :: r, 0, _, h => by
    rw [List.getElem?_cons_zero] at h
    cases h
    show (if f = f then (f, v) :: r else (f, v0) :: putF f v r) = (f, v) :: r
    rw [if_pos rfl]
  | (g, x) :: r, n + 1, nd, h => by
    rw [List.getElem?_cons_succ] at h
    have hm : f ∈ r.map (·.1) := List.mem_map.mpr ⟨(f, v0), List.mem_of_getElem? h, rfl⟩
    have nd2 := List.nodup_cons.mp (show (g :: r.map (·.1)).Nodup from nd)
    show (if g = f then (g, v) :: r else (g, x) :: putF f v r) = (g, x) :: r.set n (f, v)
    rw [if_neg fun e : g = f => nd2.1 (e ▸ hm), putF_at nd2.2 h]
theorem putF_new {f : Str} {v : V} : ∀ {fs : List (Str × V)}, f ∉ fs.map (·.1) → putF f v fs = fs ++ [(f, v)]
  | [], _ => rfl
  | (g, x) :: r, h => by
    have h2 : f ∉ g :: r.map (·.1) := h
    rw [List.mem_cons, not_or] at h2
    show (if g = f then (g, v) :: r else (g, x) :: putF f v r) = (g, x) :: (r ++ [(f, v)])
    rw [if_neg fun e : g = f => h2.1 e.symm, putF_new h2.2]
theorem putD_lt : ∀ {ds : List D} {i : Nat} {d : D}, i < ds.length → putD ds i d = ds.set i d
  | [], _, _, h => absurd h (Nat.not_lt_zero _)
  | _ :: _, 0, _, _ => rfl
  | x :: t, n + 1, d, h => by
    show x :: putD t n d = x :: t.set n d
    rw [putD_lt (Nat.lt_of_succ_lt_succ h)]
theorem putD_eq : ∀ {ds : List D} {d : D}, putD ds ds.length d = ds ++ [d]
  | [], _ => rfl
  | x :: t, d => by
    show x :: putD t t.length d = x :: (t ++ [d])
    rw [putD_eq]
theorem take_not {α : Type} {fl : List α} (nd : fl.Nodup) {n i : Nat} {f : α} (h : fl[i]? = some f) (hi : n ≤ i) : f ∉ fl.take n := by
  intro hm
  obtain ⟨j, hj⟩ := List.mem_iff_getElem?.mp hm
  have hj2 : j < n := by
    have := (List.getElem?_eq_some_iff.mp hj).1
    rw [List.length_take] at this; omega
  rw [List.getElem?_take_of_lt hj2] at hj
  obtain ⟨h1, e1⟩ := List.getElem?_eq_some_iff.mp h
  obtain ⟨h2, e2⟩ := List.getElem?_eq_some_iff.mp hj
  have := (List.getElem?_inj h2 nd).mp (hj.trans h.symm)
  omega
section
variable {K : PySem.W.Frag} {F : Hp} {fs : List (Str × V)} {fl : List Str} {ds : List D}
theorem fs_get (nd : fl.Nodup) (hn : fs.map (·.1) = fl.take ds.length) (r : Rps K F (fs.map (·.2)) ds) {i : Nat} {f : Str} {d : D} (hf : fl[i]? = some f) (hd : ds[i]? = some d) : ∃ v, fs.lookup f = some v ∧ fs[i]? = some (f, v) ∧ Rp K F v d := by
  obtain ⟨v, hv, rv⟩ := r.getD hd
  rw [List.getElem?_map] at hv
  obtain ⟨⟨g, v'⟩, e, rfl⟩ := Option.map_eq_some_iff.mp hv
  have hl := (List.getElem?_eq_some_iff.mp hd).1
  have h1 : (fs.map (·.1))[i]? = some g := by rw [List.getElem?_map, e]; rfl
  rw [hn, List.getElem?_take_of_lt hl, hf] at h1
  cases h1
  exact ⟨v', look_at (by rw [hn]; exact (List.take_sublist _ _).nodup nd) e, e, rv⟩
theorem fs_put (nd : fl.Nodup) (hn : fs.map (·.1) = fl.take ds.length) (r : Rps K F (fs.map (·.2)) ds) {i : Nat} {f : Str} {v : V} {d : D} (hf : fl[i]? = some f) (hi : i ≤ ds.length) (rv : Rp K F v d) :
    (putF f v fs).map (·.1) = fl.take (putD ds i d).length ∧ Rps K F ((putF f v fs).map (·.2)) (putD ds i d) := by
  have hlen : fs.length = ds.length := by rw [← r.length, List.length_map]
  have nd2 : (fs.map (·.1)).Nodup := by rw [hn]; exact (List.take_sublist _ _).nodup nd
  by_cases hlt : i < ds.length
  · obtain ⟨v0, _, e, _⟩ := fs_get nd hn r hf (List.getElem?_eq_getElem hlt)
    rw [putF_at nd2 e, putD_lt hlt]
    constructor
    · rw [List.map_set, List.length_set, ← hn]
      apply List.ext_getElem?
      intro j
      by_cases hj : i = j
      · subst hj
        rw [List.getElem?_set_self (by rw [List.length_map, hlen]; exact hlt), List.getElem?_map, e]; rfl
      · rw [List.getElem?_set_ne hj]
    · rw [List.map_set]
      exact r.set rv i
  · obtain rfl : i = ds.length := by omega
    have hnot : f ∉ fs.map (·.1) := by rw [hn]; exact take_not nd hf (Nat.le_refl _)
    rw [putF_new hnot, putD_eq]
    constructor
    · rw [List.map_append, List.length_append, hn]
      rw [show ds.length + [d].length = ds.length + 1 from rfl, List.take_add_one, hf]; rfl
    · rw [List.map_append]
      exact r.append (.cons rv .nil)
end
/-- e.f of an instance -/
def tFd (P : Addr → Prop) (fl : List Str) (i : Nat) (te : TEt) : TEt := fun τ M Q => te τ M fun x M1 => oObj M1 x fun _ C _ fl' ds => P C ∧ fl' = fl ∧ oSome (nthD ds i) fun d => Q d M1
/-- e.f = v -/
def sFd (P : Addr → Prop) (fl : List Str) (i : Nat) (te tv : TEt) : TSt := fun D τ M => tv τ M fun y M1 => te τ M1 fun x M2 => oObj M2 x fun a C dx fl' ds => P C ∧ fl' = fl ∧ i ≤ ds.length ∧ D.nx τ (mup M2 a (.obj C dx fl (putD ds i y)))
/-- e.f op= v -/
def sFa (P : Addr → Prop) (fl : List Str) (i : Nat) (te tv : TEt) (r : R2t) : TSt := fun D τ M => te τ M fun x M1 => oObj M1 x fun _ C _ fl' ds => P C ∧ fl' = fl ∧ oSome (nthD ds i) fun d =>
  tv τ M1 fun y M2 => r d y M2 fun z M3 => oObj M3 x fun a C' dx fl' ds => C' = C ∧ fl' = fl ∧ i ≤ ds.length ∧ D.nx τ (mup M3 a (.obj C dx fl (putD ds i z)))
section
variable {X : Cx} {E : XK} {Et : XT} {e value : Expr} {pos pos' : Pos} {te tv : TEt} {P : Addr → Prop} {fl : List Str} {i : Nat} {f : Str}
theorem oSome_e {α : Type} {o : Option α} {k : α → Prop} (h : oSome o k) : ∃ d, o = some d ∧ k d := by
  cases o with
  | none => exact h.elim
  | some d => exact ⟨d, rfl, h⟩
theorem q_fld (i : Nat) (fl : List Str) (c : ∀ C, P C → Cls X.K C ∧ NoAttr X.K C f) (he : QE X E Et e te) (hf : fl[i]? = some f := by rfl) (hb : attributeBase e f X.env (eval e X.env) = eval e X.env := by rfl) : QE X E Et (.Attribute e f pos) (tFd P fl i te) := PEimp (pe_fld he hb) (by
  rintro σ H Q ⟨G, F, M, τ, Qt, a, h, k⟩
  refine ⟨G, F, M, τ, _, a, h, fun v F1 H1 M1 d s1 r1 p1 q1 => ?_⟩
  obtain ⟨b, C, dx, fl', ds, rfl, hM, hP, rfl, q5⟩ := oObj_e q1
  obtain ⟨d', hd, q6⟩ := oSome_e q5
  cases p1
  obtain ⟨_, u, hu, r⟩ := r1.chg b _ hM
  · obtain ⟨fs, rfl, nd, hn, rr⟩ := RpO_obj r
    obtain ⟨v', e1, _, rv⟩ := fs_get nd hn rr hf (nthD_get hd)
    exact ⟨b, C, dx, fs, v', rfl, hu, (c _ hP).1, (c _ hP).2, e1, k v' F1 H1 M1 d' s1 r1 rv q6⟩)
theorem qs_fld (i : Nat) (fl : List Str) (c : ∀ C, P C → Cls X.K C ∧ NoAttr X.K C f) (he : QE X E Et e te) (hv : QE X E Et value tv) (hf : fl[i]? = some f := by rfl) (hl : fl.length < 1000 := by decide)
    (hs : swapsWith value (some (.Attribute e f pos')) pos.line X.env = pure false := by rfl) : QS X E Et (.Assign [.Attribute e f pos'] value pos) (sFd P fl i te tv) := PSimp (ps_fld he hv hs) (by
  rintro D σ H ⟨G, F, M, τ, Dt, a, en, h⟩
  refine ⟨G, F, M, τ, _, a, h, fun v F1 H1 M1 d s1 r1 p1 q1 => ?_⟩
  refine ⟨G, F1, M1, τ, _, a.step s1 r1, q1, fun x F2 H2 M2 xd s2 r2 p2 q2 => ?_⟩
  obtain ⟨b, C, dx, fl', ds, rfl, hM, hP, rfl, hi, q5⟩ := oObj_e q2
  cases p2
  obtain ⟨_, u, hu, r⟩ := r2.chg b _ hM
  · obtain ⟨fs, rfl, nd, hn, rr⟩ := RpO_obj r
    have z := fs_put nd hn rr hf hi (p1.mono s2)
    have z2 : RpO X.K F2 (.ins C dx (putF f v fs)) (.obj C dx _ (putD ds i d)) := ⟨rfl, rfl, nd, z.1, z.2⟩
    have hlen : fs.length < 1000 := by
      have := congrArg List.length hn
      rw [List.length_map, List.length_take] at this; omega
    exact ⟨b, C, dx, fs, rfl, hu, (c _ hP).1, (c _ hP).2, hlen, en.nx F2 _ _ _ _ (s1.trans s2) ⟨r2.put hM z2, (a.sg.mono s1).mono s2, (a.el.mono s1).mono s2⟩ q5⟩)
theorem qs_fldaug (i : Nat) (fl : List Str) {op : Operator} {r : R2t} (c : ∀ C, P C → Cls X.K C ∧ NoAttr X.K C f) (ho : OpQ X (inplaceOp op) r) (he : QE X E Et e te) (hv : QE X E Et value tv) (hf : fl[i]? = some f := by rfl) (hl : fl.length < 1000 := by decide) :
    QS X E Et (.AugAssign (.Attribute e f pos') op value pos) (sFa P fl i te tv r) := PSimp (ps_fldaug he hv (fun pins s σ H x y u v Q I rx ry h => ho pins s σ H x y u v Q I rx ry h)) (by
  rintro D σ H ⟨G, F, M, τ, Dt, a, en, h⟩
  refine ⟨G, F, M, τ, _, a, h, fun x F1 H1 M1 d s1 r1 p1 q1 => ?_⟩
  obtain ⟨b, C, dx, fl', ds, rfl, hM, hP, rfl, q5⟩ := oObj_e q1
  obtain ⟨d', hd, q6⟩ := oSome_e q5
  cases p1
  obtain ⟨_, u, hu, r⟩ := r1.chg b _ hM
  · obtain ⟨fs, rfl, nd, hn, rr⟩ := RpO_obj r
    obtain ⟨v', e1, _, rv⟩ := fs_get nd hn rr hf (nthD_get hd)
    refine ⟨b, C, dx, fs, v', rfl, hu, (c _ hP).1, (c _ hP).2, e1, G, F1, M1, τ, _, a.step s1 r1, q6, fun y F2 H2 M2 yd s2 r2 p2 q2 => ?_⟩
    refine ⟨G, F2, M2, d', yd, _, r2, rv.mono s2, p2, q2, fun z F3 H3 M3 zd s3 r3 p3 q3 => ?_⟩
    obtain ⟨b', C', dx', fl'', ds', eb, hM', rfl, rfl, hi, q5⟩ := oObj_e q3
    cases eb
    obtain ⟨_, u', hu', r'⟩ := r3.chg b _ hM'
    · obtain ⟨fs2, rfl, nd', hn', rr'⟩ := RpO_obj r'
      have z := fs_put nd' hn' rr' hf hi p3
      have z2 : RpO X.K F3 (.ins C' dx' (putF f _ fs2)) (.obj C' dx' _ (putD ds' i zd)) := ⟨rfl, rfl, nd', z.1, z.2⟩
      have hlen : fs2.length < 1000 := by
        have := congrArg List.length hn'
        rw [List.length_map, List.length_take] at this; omega
      exact ⟨dx', fs2, hu', hlen, en.nx F3 _ _ _ _ ((s1.trans s2).trans s3) ⟨r3.put hM' z2, ((a.sg.mono s1).mono s2).mono s3, ((a.el.mono s1).mono s2).mono s3⟩ q5⟩)
end
/-! ### methods -/
/-- a method of the class c -/
structure Fm (P : Program) (w : World) (K : PySem.W.Frag) (mg : Str → Option Value) (base : Heap) (CX : CXT) (k : Nat) (c m : Str) (sp : SpT) : Prop where
  ok : ∃ fd ps, FnOk P w K mg base CX k (He.ma K (He.ga K c) m) fd ps (lSp K sp) ∧ Binds K fd ps []
  me : Meth K (He.ga K c) m (He.ma K (He.ga K c) m)
  cl : Cls K (He.ga K c)
/-- a class that is made -/
structure Fi (P : Program) (w : World) (K : PySem.W.Frag) (mg : Str → Option Value) (base : Heap) (CX : CXT) (k : Nat) (c : Str) (sp : SpT) : Prop where
  ok : ∃ fd ps, FnOk P w K mg base CX k (He.ma K (He.ga K c) "__init__") fd ps (lSp K sp) ∧ Binds K fd ps []
  mkr : Mk K (He.ga K c) (He.ma K (He.ga K c) "__init__")
  m : mg c = some (.ref (He.ga K c))
def tMe (C : Addr) (fl : List Str) (sp : SpT) (te : TEt) (ta : TAt) : TEt := fun τ M Q => te τ M fun x M1 => oObj M1 x fun _ C' _ fl' _ => C' = C ∧ fl' = fl ∧ ta τ M1 fun ys M2 => sp (x :: ys) M2 Q Et0
def tMk (C : Addr) (fl : List Str) (sp : SpT) (ta : TAt) : TEt := fun τ M Q => ta τ M fun ys M1 => ∀ x dx, M1 x = none → sp (.ref x :: ys) (mup M1 x (.obj C dx fl [])) (fun v M2 => v = .non ∧ Q (.ref x) M2) Et0
def tAlt (t u : TEt) : TEt := fun τ M Q => t τ M Q ∨ u τ M Q
section
variable {X : Cx} {E : XK} {Et : XT} {e : Expr} {es : List Expr} {pos apos p : Pos} {te : TEt} {ta : TAt} {fl : List Str} {c m : Str} {sp : SpT} {k : Nat} {o : Expr}
theorem q_alt {t u : TEt} (h : QE X E Et e t) (h2 : QE X E Et e u) : QE X E Et e (tAlt t u) := ⟨fun pins s σ H Q I w => by
  obtain ⟨G, F, M, τ, Qt, a, h3, k⟩ := w
  rcases h3 with h3 | h3
  · exact h.run pins s σ H Q I ⟨G, F, M, τ, Qt, a, h3, k⟩
  · exact h2.run pins s σ H Q I ⟨G, F, M, τ, Qt, a, h3, k⟩⟩
theorem lv_meth {E' : XK} {to : TEt} (hm : m ∉ fl) : ∀ σ H Q, liftE X.K E Et (tMe (He.ga X.K c) fl sp to ta) σ H Q → tMeth (He.ga X.K c) m (lSp X.K sp) [] E' (liftE X.K E Et to) (liftA X.K E Et ta) σ H Q := by
  rintro σ H Q ⟨G, F, M, τ, Qt, a, h, k⟩
  refine ⟨G, F, M, τ, _, a, h, fun x F1 H1 M1 d s1 r1 p1 q1 => ?_⟩
  obtain ⟨b, C, dx, fl', ds, rfl, hM, rfl, rfl, q5⟩ := oObj_e q1
  cases p1
  obtain ⟨_, u, hu, r⟩ := r1.chg b _ hM
  · obtain ⟨fs, rfl, nd, hn, rr⟩ := RpO_obj r
    refine ⟨b, dx, fs, rfl, hu, look_not (by rw [hn]; exact fun z => hm (List.mem_of_mem_take z)), G, F1, M1, τ, _, a.step s1 r1, q5, fun vs F2 H2 M2 ys s2 r2 p2 q2 => ?_⟩
    show lSp X.K sp (.ref b :: (vs ++ [])) H2 Q E'
    rw [List.append_nil]
    exact ⟨G, F2, M2, .ref b :: ys, Qt, Et0, r2, .cons (.ref b) p2, .never, q2, fun v F' H' M' d s => k v F' H' M' d ((s1.trans s2).trans s)⟩
theorem q_meth (fl : List Str) (Fo : Fm X.prog X.w X.K X.mg X.base CX0 k c m sp) (hr : Room k X.A) {to : TEt} (he : QE X E Et o to) (ha : QA X E Et (e :: es) ta) (hm : m ∉ fl := by decide)
    (hst : starEach (e :: es) X.env = (false, eval e X.env) :: starEach es X.env := by rfl) (hpl : (backTo pos (starEach es X.env)).any (·.1) = false := by rfl)
    {pl : Sem Bool} (ht : eval (.Call (.Attribute o m apos) (e :: es) [] pos) X.env = (do
      let ov ← eval o X.env
      standAt apos.atName
      let (f, first) ← holding [ov] (getMethod ov m pl)
      callWith pos f first (backTo pos (starEach (e :: es) X.env)) (backToKw pos (keywordEach [] X.env))) := by rfl) :
    QE X E Et (.Call (.Attribute o m apos) (e :: es) [] pos) (tMe (He.ga X.K c) fl sp to ta) := by
  obtain ⟨⟨fd, ps, F1, b⟩, me, cl⟩ := Fo
  exact PEimp (pe_meth he cl me F1 hr b .nil pass0 ha hst hpl ht) (lv_meth hm)
theorem q_meth0 (fl : List Str) (Fo : Fm X.prog X.w X.K X.mg X.base CX0 k c m sp) (hr : Room k X.A) {to : TEt} (he : QE X E Et o to) (hm : m ∉ fl := by decide)
    {pl : Sem Bool} (ht : eval (.Call (.Attribute o m apos) [] [] pos) X.env = (do
      let ov ← eval o X.env
      standAt apos.atName
      let (f, first) ← holding [ov] (getMethod ov m pl)
      callWith pos f first (backTo pos (starEach [] X.env)) (backToKw pos (keywordEach [] X.env))) := by rfl) :
    QE X E Et (.Call (.Attribute o m apos) [] [] pos) (tMe (He.ga X.K c) fl sp to tN) := by
  obtain ⟨⟨fd, ps, F1, b⟩, me, cl⟩ := Fo
  refine PEimp (pe_meth0 he cl me F1 hr b .nil pass0 ht) ?_
  rintro σ H Q h
  obtain ⟨hx⟩ : Nonempty Unit := ⟨()⟩
  obtain ⟨G, F, M, τ, Qt, a, h, k⟩ := h
  refine ⟨G, F, M, τ, _, a, h, fun x F1 H1 M1 d s1 r1 p1 q1 => ?_⟩
  obtain ⟨b', C, dx, fl', ds, rfl, hM, rfl, rfl, q5⟩ := oObj_e q1
  cases p1
  obtain ⟨_, u, hu, r⟩ := r1.chg b' _ hM
  · obtain ⟨fs, rfl, nd, hn, rr⟩ := RpO_obj r
    refine ⟨b', dx, fs, rfl, hu, look_not (by rw [hn]; exact fun z => hm (List.mem_of_mem_take z)), ?_⟩
    exact ⟨G, F1, M1, [.ref b'], Qt, Et0, r1, .cons (.ref b') .nil, .never, q5, fun v F' H' M' d s => k v F' H' M' d (s1.trans s)⟩
theorem lv_make1 {E' : XK} {H1 : Hp} {F1 G : Hp} {M1 : MH} {ys : List D} {vs : List V} {Q : VK} {Qt : VD} (nd : fl.Nodup) (r1 : Rel X.K G F1 H1 M1) (p1 : Rps X.K F1 vs ys)
    (h : ∀ x dx, M1 x = none → sp (.ref x :: ys) (mup M1 x (.obj (He.ga X.K c) dx fl [])) (fun v M2 => v = .non ∧ Qt (.ref x) M2) Et0)
    (k : ∀ v F' H' M' d, Same F1 F' → Rel X.K G F' H' M' → Rp X.K F' v d → Qt d M' → Q v H') :
    ∀ x dx, H1 x = none → H1 dx = none → dx ≠ x → lSp X.K sp (.ref x :: vs) (upd (upd H1 dx (.own x)) x (.ins (He.ga X.K c) dx [])) (fun v H2 => v = .non ∧ Q (.ref x) H2) E' := by
  intro x dx nx ndx ne
  obtain ⟨s2, r2⟩ := r1.newF (o := .own x) ndx
  have r3 := r2.newM (p := x) (u := .ins (He.ga X.K c) dx []) (o := .obj (He.ga X.K c) dx fl []) (by rw [upd_ne (Ne.symm ne)]; exact nx) ⟨rfl, rfl, nd, rfl, .nil⟩
  refine ⟨G, _, _, .ref x :: ys, _, Et0, r3, .cons (.ref x) (p1.mono s2), .never, h x dx (r1.free nx).2, fun v F' H' M' d s r p q => ?_⟩
  obtain ⟨rfl, q⟩ := q
  cases p
  exact ⟨rfl, k _ F' H' M' (.ref x) (s2.trans s) r (.ref x) q⟩
theorem q_make (fl : List Str) (Fo : Fi X.prog X.w X.K X.mg X.base CX0 k c sp) (hr : Room (k + 1) X.A) (ha : QA X E Et (e :: es) ta) (hg : Gl X c := by rfl) (nd : fl.Nodup := by decide) (hdb : (c == ("__debug__" : Str)) = false := by decide)
    (he : starEach (e :: es) X.env = (false, eval e X.env) :: starEach es X.env := by rfl) (hpl : (backTo pos (starEach es X.env)).any (·.1) = false := by rfl) : QE X E Et (.Call (.Name c p) (e :: es) [] pos) (tMk (He.ga X.K c) fl sp ta) := by
  obtain ⟨⟨fd, ps, F1, b⟩, mk, m⟩ := Fo
  refine PEimp (pe_make mk F1 hr hg m b .nil pass0 ha hdb he hpl) ?_
  rintro σ H Q ⟨G, F, M, τ, Qt, a, h, k⟩
  refine ⟨G, F, M, τ, _, a, h, fun vs F1 H1 M1 ys s1 r1 p1 q1 => ?_⟩
  intro x dx nx ndx ne
  show lSp X.K sp (.ref x :: (vs ++ [])) _ _ E0
  rw [List.append_nil]
  exact lv_make1 nd r1 p1 q1 (fun v F' H' M' d s => k v F' H' M' d (s1.trans s)) x dx nx ndx ne
theorem q_make0 (fl : List Str) (Fo : Fi X.prog X.w X.K X.mg X.base CX0 k c sp) (hr : Room (k + 1) X.A) (hg : Gl X c := by rfl) (nd : fl.Nodup := by decide) (hdb : (c == ("__debug__" : Str)) = false := by decide) :
    QE X E Et (.Call (.Name c p) [] [] pos) (tMk (He.ga X.K c) fl sp tN) := by
  obtain ⟨⟨fd, ps, F1, b⟩, mk, m⟩ := Fo
  refine PEimp (pe_make0 mk F1 hr hg m b .nil pass0 hdb) ?_
  rintro σ H Q ⟨G, F, M, τ, Qt, a, h, k⟩
  intro x dx nx ndx ne
  exact lv_make1 nd a.rel .nil h k x dx nx ndx ne
end
section
variable {P : Program} {w : World} {K : PySem.W.Frag} {mg : Str → Option Value} {base : Heap} {c m : Str} {N ps : List Str} {k : Nat} {sp : SpT} {fa : List He.Fa} {fn : List He.DefD}
theorem Top.cls (T : Top fa fn K mg) (i : Nat) {x : Str} (h : fa[i]? = some (.cls x) := by rfl) : Cls K (He.ga K x) := He.cls_ok (T.says.fact i h)
theorem Top.noat (T : Top fa fn K mg) (i : Nat) {x f : Str} (h : fa[i]? = some (.noat x f) := by rfl) : NoAttr K (He.ga K x) f := He.noat_ok (T.says.fact i h)
theorem Top.meth (T : Top fa fn K mg) (i : Nat) {x f : Str} (h : fa[i]? = some (.meth x f) := by rfl) : Meth K (He.ga K x) f (He.ma K (He.ga K x) f) := He.meth_ok (T.says.fact i h)
theorem Top.mkr (T : Top fa fn K mg) (i : Nat) {x : Str} (h : fa[i]? = some (.mkr x) := by rfl) : Mk K (He.ga K x) (He.ma K (He.ga K x) "__init__") := He.mkr_ok (T.says.fact i h)
/-- THE RULE of a method's code, at whatever place -/
theorem fa_top (T : Top fa fn K mg) (d : He.DefD) (i : Nat) (S : FnScope N ps d.scope) (len : ∀ ds M Q Et, sp ds M Q Et → ds.length = ps.length)
    (hb : ∀ (cdv : Value) (A : Around) (outer : List Env) (s : Shared) (H : Hp) (E : XK), Room k (A.deeper (envOfC d.qual d.scope s.heap.objs.size (He.fAd K d.at_) cdv)) →
      ∃ t, QSs (cxOf CX0 P w K mg base N d.qual d.scope (He.fAd K d.at_) cdv A outer s H E).nox E0 Et0 d.body t ∧ ∀ ds M Q Et, sp ds M Q Et → t { nx := fun _ M' => Q .non M', rt := Q } (begin_ N ds) M)
    (bd : ∀ (kV doc pm : Value) (an : Option Addr) (cdv ct : Value) (us : List Value), us.length = ps.length → bindArgs (PySem.W.fnOf d.name d.qual d.params d.body d.scope .none kV doc pm an cdv ct) ⟨us, []⟩ = pure (ps.zip us))
    (h : fn[i]? = some d := by rfl) (h0 : d.dfl = [] := by rfl) (h1 : d.kwd = [] := by rfl) : ∃ fd ps, FnOk P w K mg base CX0 (k + 1) (He.fAd K d.at_) fd ps (lSp K sp) ∧ Binds K fd ps [] := by
  obtain ⟨fd, F⟩ := T.says.def_ i h
  have e0 : d.dvs K = [] := by unfold He.DefD.dvs; rw [h0]; rfl
  have e1 : d.kws K = [] := by unfold He.DefD.kws; rw [h1]; rfl
  rw [e0, e1] at F
  exact ⟨fd, ps, fn_ok d fd F S len hb, F.bindsN bd⟩
theorem fm_top (T : Top fa fn K mg) (d : He.DefD) (i : Nat) (S : FnScope N ps d.scope) (me : Meth K (He.ga K c) m (He.ma K (He.ga K c) m)) (cl : Cls K (He.ga K c)) (len : ∀ ds M Q Et, sp ds M Q Et → ds.length = ps.length)
    (hb : ∀ (cdv : Value) (A : Around) (outer : List Env) (s : Shared) (H : Hp) (E : XK), Room k (A.deeper (envOfC d.qual d.scope s.heap.objs.size (He.fAd K d.at_) cdv)) →
      ∃ t, QSs (cxOf CX0 P w K mg base N d.qual d.scope (He.fAd K d.at_) cdv A outer s H E).nox E0 Et0 d.body t ∧ ∀ ds M Q Et, sp ds M Q Et → t { nx := fun _ M' => Q .non M', rt := Q } (begin_ N ds) M)
    (bd : ∀ (kV doc pm : Value) (an : Option Addr) (cdv ct : Value) (us : List Value), us.length = ps.length → bindArgs (PySem.W.fnOf d.name d.qual d.params d.body d.scope .none kV doc pm an cdv ct) ⟨us, []⟩ = pure (ps.zip us))
    (h : fn[i]? = some d := by rfl) (h0 : d.dfl = [] := by rfl) (h1 : d.kwd = [] := by rfl) (hx : d.at_ = (c, some m) := by rfl) : Fm P w K mg base CX0 (k + 1) c m sp := by
  have z := fa_top (P := P) (w := w) (base := base) T d i S len hb bd h h0 h1
  rw [hx] at z
  exact ⟨z, me, cl⟩
theorem fi_top (T : Top fa fn K mg) (d : He.DefD) (i : Nat) (S : FnScope N ps d.scope) (mk : Mk K (He.ga K c) (He.ma K (He.ga K c) "__init__")) (hm : mg c = some (.ref (He.ga K c))) (len : ∀ ds M Q Et, sp ds M Q Et → ds.length = ps.length)
    (hb : ∀ (cdv : Value) (A : Around) (outer : List Env) (s : Shared) (H : Hp) (E : XK), Room k (A.deeper (envOfC d.qual d.scope s.heap.objs.size (He.fAd K d.at_) cdv)) →
      ∃ t, QSs (cxOf CX0 P w K mg base N d.qual d.scope (He.fAd K d.at_) cdv A outer s H E).nox E0 Et0 d.body t ∧ ∀ ds M Q Et, sp ds M Q Et → t { nx := fun _ M' => Q .non M', rt := Q } (begin_ N ds) M)
    (bd : ∀ (kV doc pm : Value) (an : Option Addr) (cdv ct : Value) (us : List Value), us.length = ps.length → bindArgs (PySem.W.fnOf d.name d.qual d.params d.body d.scope .none kV doc pm an cdv ct) ⟨us, []⟩ = pure (ps.zip us))
    (h : fn[i]? = some d := by rfl) (h0 : d.dfl = [] := by rfl) (h1 : d.kwd = [] := by rfl) (hx : d.at_ = (c, some ("__init__" : Str)) := by rfl) : Fi P w K mg base CX0 (k + 1) c sp := by
  have z := fa_top (P := P) (w := w) (base := base) T d i S len hb bd h h0 h1
  rw [hx] at z
  exact ⟨z, mk, hm⟩
end
/-! ### readings, for simp -/
section
variable {τ : Sg} {M : MH} {Q : VD} {te tv : TEt} {ta : TAt} {P : Addr → Prop} {fl : List Str} {i : Nat} {a C dx : Addr} {ds : List D} {sp : SpT}
def oAt (o : Option MO) (k : Addr → Addr → List Str → List D → Prop) : Prop := match o with
  | some (.obj C dx fl ds) => k C dx fl ds
  | _ => False
theorem uObj {k : Addr → Addr → Addr → List Str → List D → Prop} : oObj M (.ref a) k = oAt (M a) (k a) := by
  show (match M a with | some (.obj C dx fl ds) => k a C dx fl ds | _ => False) = oAt (M a) (k a)
  cases M a with
  | none => rfl
  | some o => cases o <;> rfl
theorem oAt_i {k : Addr → Addr → List Str → List D → Prop} : oAt (some (.obj C dx fl ds)) k = k C dx fl ds := rfl
theorem cxK {CX : CXT} {P : Program} {w : World} {K : PySem.W.Frag} {mg : Str → Option Value} {base : Heap} {N : List Str} {qual : Str} {scope : Scope} {f : Addr} {cdv : Value} {A : Around} {outer : List Env} {s : Shared} {H : Hp} {E : XK} : (cxOf CX P w K mg base N qual scope f cdv A outer s H E).K = K := rfl
theorem cxKn {CX : CXT} {P : Program} {w : World} {K : PySem.W.Frag} {mg : Str → Option Value} {base : Heap} {N : List Str} {qual : Str} {scope : Scope} {f : Addr} {cdv : Value} {A : Around} {outer : List Env} {s : Shared} {H : Hp} {E : XK} : (cxOf CX P w K mg base N qual scope f cdv A outer s H E).nox.K = K := rfl
theorem uAlt {t u : TEt} : tAlt t u τ M Q = (t τ M Q ∨ u τ M Q) := rfl
end
end Tl

namespace Tl
open PySem PySem.Spec PyProof.Rows L2

/-! ### == of nested data -/
mutual
def pyD : D → Option PyData
  | .non => some .none
  | .bl b => some (.bool b)
  | .int i => some (.int i)
  | .str s => some (.str s)
  | .tup l => (pyDs l).map .tuple
  | .tab l => (pyDs l).map .tuple
  | .lst l => (pyDs l).map .list
  | .scr l => (pyDs l).map .list
  | .ref _ => none
  | .ty _ => none
def pyDs : List D → Option (List PyData)
  | [] => some []
  | x :: t => match pyD x, pyDs t with
    | some a, some b => some (a :: b)
    | _, _ => none
end
def pyM (M : MH) (d : D) : Option PyData := match d with
  | .ref a => match M a with
    | some (.lst ds) => (pyDs ds).map .list
    | _ => none
  | d => pyD d
section
variable {K : PySem.W.Frag} {F H : Hp}
mutual
theorem Rp.dp (s : Same F H) : ∀ {v : V} {d : D} {y : PyData}, Rp K F v d → pyD d = some y → Dp K H v y
  | _, _, _, .non, e => by unfold pyD at e; cases e; exact .non
  | _, _, _, .bl b, e => by unfold pyD at e; cases e; exact .bl b
  | _, _, _, .int i, e => by unfold pyD at e; cases e; exact .int i
  | _, _, _, .str x, e => by unfold pyD at e; cases e; exact .str x
  | _, _, _, .ty n, e => by unfold pyD at e; cases e
  | _, _, _, .ref a, e => by unfold pyD at e; cases e
  | _, _, _, .tup h r, e => by
    unfold pyD at e
    obtain ⟨ys, e2, rfl⟩ := Option.map_eq_some_iff.mp e
    exact .tup (SqT.of (s _ _ h)) (Rps.dp s r e2)
  | _, _, _, .tab h r, e => by
    unfold pyD at e
    obtain ⟨ys, e2, rfl⟩ := Option.map_eq_some_iff.mp e
    exact .tup (SameT s h) (Rps.dp s r e2)
  | _, _, _, .lst h r, e => by
    unfold pyD at e
    obtain ⟨ys, e2, rfl⟩ := Option.map_eq_some_iff.mp e
    exact .lst (SqL.of (s _ _ h)) (Rps.dp s r e2)
  | _, _, _, .scr h r, e => by
    unfold pyD at e
    obtain ⟨ys, e2, rfl⟩ := Option.map_eq_some_iff.mp e
    exact .lst (s.seq h) (Rps.dp s r e2)
theorem Rps.dp (s : Same F H) : ∀ {vs : List V} {ds : List D} {ys : List PyData}, Rps K F vs ds → pyDs ds = some ys → DpAll K H vs ys
  | _, _, _, .nil, e => by unfold pyDs at e; cases e; exact .nil
  | _, _, _, .cons (d := d) (ds := ds) h t, e => by
    unfold pyDs at e
    cases q : pyD d with
    | none => simp only [q] at e; cases e
    | some a =>
      cases q2 : pyDs ds with
      | none => simp only [q, q2] at e; cases e
      | some b =>
        simp only [q, q2] at e
        cases e
        exact .cons (Rp.dp s h q) (Rps.dp s t q2)
end
theorem dp_of {G : Hp} {M : MH} {v : V} {d : D} {y : PyData} (R : Rel K G F H M) (p : Rp K F v d) (e : pyM M d = some y) : Dp K H v y := by
  cases d with
  | ref a =>
    cases p
    unfold pyM at e
    cases q : M a with
    | none => simp only [q] at e; cases e
    | some o =>
      simp only [q] at e
      obtain ⟨_, u, hu, r⟩ := R.chg a o q
      cases o with
      | lst ds =>
        obtain ⟨ys, e2, rfl⟩ := Option.map_eq_some_iff.mp e
        cases u with
        | lst vs => exact .lst (SqL.of hu) (Rps.dp R.sub r e2)
        | _ => exact (r : False).elim
      | _ => cases e
  | _ => exact Rp.dp R.sub p e
end
def bEqD : R2t := fun x y M Q => match pyM M x, pyM M y with
  | some d, some e => SeqAt.shaped d = true ∧ SeqAt.shaped e = true ∧ Q (.bl (PyData.eqv d e)) M
  | _, _ => False
def bNeD : R2t := fun x y M Q => match pyM M x, pyM M y with
  | some d, some e => SeqAt.shaped d = true ∧ SeqAt.shaped e = true ∧ Q (.bl (!PyData.eqv d e)) M
  | _, _ => False
section
variable {X : Cx}
theorem oq_eqD (hu : X.A.units + 64 < cLine) : OpQ X (compareOp .Eq) bEqD := OpRimp (op_eqD hu) (by
  rintro x y H Q ⟨G, F, M, dx, dy, Qt, R, px, py, h, k⟩
  unfold bEqD at h
  cases e1 : pyM M dx with
  | none => simp only [e1] at h
  | some d =>
    cases e2 : pyM M dy with
    | none => simp only [e1, e2] at h
    | some e =>
      simp only [e1, e2] at h
      exact ⟨d, e, dp_of R px e1, dp_of R py e2, h.1, h.2.1, k _ F H M _ (Same.refl _) R (.bl _) h.2.2⟩)
theorem oq_neD (hu : X.A.units + 64 < cLine) : OpQ X (compareOp .NotEq) bNeD := OpRimp (op_neD hu) (by
  rintro x y H Q ⟨G, F, M, dx, dy, Qt, R, px, py, h, k⟩
  unfold bNeD at h
  cases e1 : pyM M dx with
  | none => simp only [e1] at h
  | some d =>
    cases e2 : pyM M dy with
    | none => simp only [e1, e2] at h
    | some e =>
      simp only [e1, e2] at h
      exact ⟨d, e, dp_of R px e1, dp_of R py e2, h.1, h.2.1, k _ F H M _ (Same.refl _) R (.bl _) h.2.2⟩)
end
/-! data whose == is sameness: its texts are texts, its nesting is below n -/
mutual
def okD : Nat → D → Prop
  | _, .non => True
  | _, .int _ => True
  | _, .bl _ => True
  | _, .str s => PyData.strOk s = true
  | n + 1, .tup l => okDs n l
  | n + 1, .lst l => okDs n l
  | n + 1, .scr l => okDs n l
  | n + 1, .tab l => okDs n l
  | _, _ => False
def okDs : Nat → List D → Prop
  | _, [] => True
  | n, x :: t => okD n x ∧ okDs n t
end
mutual
theorem okD_py : ∀ (n : Nat) (d : D), okD n d → ∃ y, pyD d = some y ∧ y.canLay0 = true ∧ y.depth ≤ n
  | n, .non, _ => ⟨.none, by unfold pyD; rfl, by unfold PyData.canLay0; rfl, by unfold PyData.depth; omega⟩
  | n, .int i, _ => ⟨.int i, by unfold pyD; rfl, by unfold PyData.canLay0; rfl, by unfold PyData.depth; omega⟩
  | n, .bl b, _ => ⟨.bool b, by unfold pyD; rfl, by unfold PyData.canLay0; rfl, by unfold PyData.depth; omega⟩
  | n, .str s, h => ⟨.str s, by unfold pyD; rfl, by unfold PyData.canLay0; unfold okD at h; exact h, by unfold PyData.depth; omega⟩
  | n + 1, .tup l, h => by
    unfold okD at h
    obtain ⟨ys, e, c, dp⟩ := okDs_py n l h
    exact ⟨.tuple ys, by unfold pyD; rw [e]; rfl, by unfold PyData.canLay0; exact c, by unfold PyData.depth; omega⟩
  | n + 1, .tab l, h => by
    unfold okD at h
    obtain ⟨ys, e, c, dp⟩ := okDs_py n l h
    exact ⟨.tuple ys, by unfold pyD; rw [e]; rfl, by unfold PyData.canLay0; exact c, by unfold PyData.depth; omega⟩
  | n + 1, .lst l, h => by
    unfold okD at h
    obtain ⟨ys, e, c, dp⟩ := okDs_py n l h
    exact ⟨.list ys, by unfold pyD; rw [e]; rfl, by unfold PyData.canLay0; exact c, by unfold PyData.depth; omega⟩
  | n + 1, .scr l, h => by
    unfold okD at h
    obtain ⟨ys, e, c, dp⟩ := okDs_py n l h
    exact ⟨.list ys, by unfold pyD; rw [e]; rfl, by unfold PyData.canLay0; exact c, by unfold PyData.depth; omega⟩
  | 0, .tup l, h => by unfold okD at h; exact h.elim
  | 0, .tab l, h => by unfold okD at h; exact h.elim
  | 0, .lst l, h => by unfold okD at h; exact h.elim
  | 0, .scr l, h => by unfold okD at h; exact h.elim
  | _, .ref _, h => by unfold okD at h; exact h.elim
  | _, .ty _, h => by unfold okD at h; exact h.elim
theorem okDs_py : ∀ (n : Nat) (l : List D), okDs n l → ∃ ys, pyDs l = some ys ∧ PyData.canLayAll0 ys = true ∧ PyData.depthAll ys ≤ n
  | n, [], _ => ⟨[], by unfold pyDs; rfl, by unfold PyData.canLayAll0; rfl, by unfold PyData.depthAll; omega⟩
  | n, x :: t, h => by
    unfold okDs at h
    obtain ⟨y, e1, c1, d1⟩ := okD_py n x h.1
    obtain ⟨ys, e2, c2, d2⟩ := okDs_py n t h.2
    exact ⟨y :: ys, by unfold pyDs; rw [e1, e2], by unfold PyData.canLayAll0; rw [c1, c2]; rfl, by unfold PyData.depthAll; omega⟩
end
theorem okDs_of {n : Nat} : ∀ {l : List D}, (∀ x ∈ l, okD n x) → okDs n l
  | [], _ => by unfold okDs; trivial
  | x :: t, h => by unfold okDs; exact ⟨h x (List.mem_cons_self ..), okDs_of fun y hy => h y (List.mem_cons_of_mem _ hy)⟩
/-- a frozen thing, or a changing list of frozen things -/
def asD (M : MH) (d : D) : Option D := match d with
  | .ref a => match M a with
    | some (.lst ds) => some (.lst ds)
    | _ => none
  | d => some d
theorem pyM_asD {M : MH} {d e : D} (h : asD M d = some e) : pyM M d = pyD e := by
  cases d with
  | ref a =>
    unfold asD at h
    unfold pyM
    cases q : M a with
    | none => simp only [q] at h; cases h
    | some o => cases o <;> simp only [q] at h ⊢ <;> cases h; unfold pyD; rfl
  | _ => cases h; rfl
theorem eqD_same {M : MH} {x y z : D} {Q : VD} (n : Nat) (hx : asD M x = some z) (hy : asD M y = some z) (ok : okD n z) (h : Q (.bl true) M) (hn : n ≤ 64 := by decide) : bEqD x y M Q := by
  obtain ⟨d, e, c, dp⟩ := okD_py n z ok
  unfold bEqD
  simp only [pyM_asD hx, pyM_asD hy, e]
  have sh : SeqAt.shaped d = true := Bool.and_eq_true_iff.mpr ⟨c, decide_eq_true (by omega)⟩
  exact ⟨sh, sh, by rw [SeqAt.eqv_refl d c]; exact h⟩
theorem neD_same {M : MH} {x y z : D} {Q : VD} (n : Nat) (hx : asD M x = some z) (hy : asD M y = some z) (ok : okD n z) (h : Q (.bl false) M) (hn : n ≤ 64 := by decide) : bNeD x y M Q := by
  obtain ⟨d, e, c, dp⟩ := okD_py n z ok
  unfold bNeD
  simp only [pyM_asD hx, pyM_asD hy, e]
  have sh : SeqAt.shaped d = true := Bool.and_eq_true_iff.mpr ⟨c, decide_eq_true (by omega)⟩
  exact ⟨sh, sh, by rw [SeqAt.eqv_refl d c]; exact h⟩
/-- what was made and is needed no more -/
theorem ReR.new {K : PySem.W.Frag} {d : D} {M : MH} {a : Addr} {o : MO} (h : M a = none) : ReR K d (mup M a o) d M := ReR.drop fun b o' e => by
  rw [mup_ne (by rintro rfl; rw [h] at e; cases e)]; exact e
theorem wm60 {i j : Int} (hi : -(2 ^ 60) < i ∧ i < 2 ^ 60) (hj : -(2 ^ 60) < j ∧ j < 2 ^ 60) : CMulW i j := wide_mul (a := 60) (b := 60) (by omega) (by omega) (by decide) (by decide) (by decide)
theorem wd60 {i j : Int} (h : 0 < j) (hj : j < 2 ^ 60) : CDivW i j := wide_div (b := 60) h (by omega) (by decide) (by decide)
theorem modB {a b : Int} (h : 0 < b) : 0 ≤ a % b ∧ a % b < b := ⟨Int.emod_nonneg _ (by omega), Int.emod_lt_of_pos _ h⟩
theorem rng_get {f : Nat → D} {n i : Nat} {x : D} (h : ((List.range n).map f)[i]? = some x) : i < n ∧ x = f i := by
  rw [List.getElem?_map] at h
  obtain ⟨y, hy, rfl⟩ := Option.map_eq_some_iff.mp h
  obtain ⟨h1, h2⟩ := List.getElem?_eq_some_iff.mp hy
  rw [List.getElem_range] at h2
  rw [List.length_range] at h1
  exact ⟨h1, by rw [h2]⟩
theorem map_get {α : Type} {a : α → D} {xs : List α} {i : Nat} {x : D} (h : (xs.map a)[i]? = some x) : ∃ y, xs[i]? = some y ∧ x = a y := by
  rw [List.getElem?_map] at h
  obtain ⟨y, hy, rfl⟩ := Option.map_eq_some_iff.mp h
  exact ⟨y, hy, rfl⟩
theorem cut_mem {x : D} {xs : List D} {lo hi : Option Int} (h : x ∈ Tl.cutD xs lo hi) : x ∈ xs := List.mem_of_mem_drop (List.mem_of_mem_take h)
theorem cut_len {xs : List D} {lo hi : Option Int} : (Tl.cutD xs lo hi).length ≤ xs.length := by
  unfold Tl.cutD
  rw [List.length_take, List.length_drop]
  omega
theorem rgc_up {i j c : Int} (hi : 0 ≤ i ∧ i ≤ 1000000) (hj : 0 ≤ j ∧ j ≤ 1000000) (hc : 1 ≤ c ∧ c ≤ 1000000) : ∃ n, RgC i j c n ∧ ∀ k : Nat, k < n → i + k * c < j := by
  have e : Builtin.Range.rangeSize i j c = if i < j then (j - i - 1) / c + 1 else 0 := by
    unfold Builtin.Range.rangeSize
    rw [if_pos (by omega)]
  have hb : i < j → 0 ≤ (j - i - 1) / c ∧ (j - i - 1) / c ≤ 1000000 := fun h => by
    refine ⟨Int.ediv_nonneg (by omega) (by omega), ?_⟩
    have := Int.ediv_le_self (a := j - i - 1) c (by omega)
    omega
  have hn : 0 ≤ Builtin.Range.rangeSize i j c ∧ Builtin.Range.rangeSize i j c ≤ 1000001 := by
    rw [e]
    split
    · rename_i h
      have := hb h
      omega
    · omega
  refine ⟨(Builtin.Range.rangeSize i j c).toNat, ⟨by omega, by omega, ?_, by omega⟩, fun k hk => ?_⟩
  · unfold Builtin.Range.small
    simp only [Builtin.Range.rangeFitsLong, Bool.and_eq_true, Bool.or_eq_true, decide_eq_true_eq, beq_iff_eq]
    rw [if_pos (by omega), Bool.and_eq_true, decide_eq_true_eq, decide_eq_true_eq]
    omega
  · rw [e] at hk
    split at hk
    · rename_i h
      have := hb h
      have h2 : (k : Int) ≤ (j - i - 1) / c := by omega
      have h3 := (Int.le_ediv_iff_mul_le (show 0 < c by omega)).mp h2
      omega
    · simp at hk
def cutA {α : Type} (xs : List α) (lo hi : Option Int) : List α := (xs.drop (HT.sIx xs.length 0 lo)).take (HT.sIx xs.length xs.length hi - HT.sIx xs.length 0 lo)
theorem cut_map {α : Type} {a : α → D} {xs : List α} {lo hi : Option Int} : Tl.cutD (xs.map a) lo hi = (cutA xs lo hi).map a := by
  unfold Tl.cutD cutA
  rw [List.length_map, List.map_take, List.map_drop]
theorem cutA_len {α : Type} {xs : List α} {lo hi : Option Int} : (cutA xs lo hi).length ≤ xs.length := by
  unfold cutA
  rw [List.length_take, List.length_drop]
  omega
theorem cutA_pos {α : Type} {xs : List α} {i w : Nat} (h : i < xs.length) (hw : 0 < w) : 0 < (cutA xs (some i) (some ((i : Int) + w))).length := by
  unfold cutA
  rw [show (i : Int) + w = ((i + w : Nat) : Int) from by omega, HT.sIx_nat, HT.sIx_nat, List.length_take, List.length_drop]
  omega
theorem un64 {k : Nat} {A : Around} (hr : Room k A) : A.units + 64 < cLine := hr.units
end Tl

set_option maxHeartbeats 4000000
local macro_rules | `(tactic| walk_at "vc") => `(tactic| simp only [Tl.tRe, Tl.sRe, Tl.wip, Tl.uObj, Tl.oAt_i, Tl.cxK, Tl.cxKn, true_or, or_true, or_false, false_or, Nat.zero_le, Nat.le_refl, Tl.mup_same, Tl.mup_mup, Tl.uAlt, Tl.tFd, Tl.sFd, Tl.sFa, Tl.tMe, Tl.tMk, Tl.nthD, Tl.putD, Tl.uFo, Tl.uLcF, Tl.uLcV', Tl.uAsRef, Tl.sNx, Tl.sSq, Tl.sBk, Tl.sCt, Tl.sDr, Tl.sRt, Tl.sRtN, Tl.sIf, Tl.sAs, Tl.gN, Tl.gSb, Tl.tK, Tl.tO, Tl.tU, Tl.tCa, Tl.tN, Tl.tCs, Tl.tAn, Tl.tOr', Tl.tNo, Tl.tIfE, Tl.tCl, Tl.tTu, Tl.tLi, Tl.tLm, Tl.tSc, Tl.oNo, Tl.tMt, Tl.tMt0, Tl.tYe, Tl.tLt, Tl.kit_ii, Tl.kit_ib, Tl.kit_bi, Tl.kit_bb, Tl.kit_si, Tl.kit_ss, Tl.kit_is, Tl.kit_tt, Tl.kit_ll, Tl.kit_lt, Tl.kit_tl, Tl.kit_ts, Tl.kit_ls, Tl.kit_sl, Tl.kit_st, Tl.kit_it, Tl.kit_il, Tl.kit_dd, Tl.kit_ni, Tl.kit_nb, Tl.begin_, Tl.nth, List.map, List.length, List.replicate, List.append, List.set, List.nil_append, List.cons_append, List.append_nil, Nat.reduceAdd, Nat.reduceSub, Nat.zero_add, reduceIte, Bool.false_eq_true, Bool.true_eq_false, Bool.not_eq_true', Bool.not_eq_false', Bool.not_true, Bool.not_false, not_true_eq_false, not_false_eq_true, decide_eq_true_eq, decide_eq_false_iff_not, decide_not, Option.isSome_some, true_and, and_true, Int.reduceLT, Int.reduceLE, Int.reduceNeg, List.cons.injEq, Option.some.injEq, PySem.sizeLine_eq, Nat.reduceLeDiff, List.length_map, List.length_append, List.length_cons, List.length_nil, Tl.oBl_i, Tl.oInt_i, Tl.oStr_i, Tl.oTup_i, Tl.oSome_i, Tl.oBl_if, Tl.uV, Tl.uBo, Tl.uAnV, Tl.uOrV, Tl.uNoV, Tl.uCh, Tl.uNl0, Tl.uCs1, Tl.uTp, Tl.uAg, Tl.uInt, Tl.uInt0, Tl.uNegI, Tl.uEq, Tl.uNe, Tl.dScal_ii, Tl.dScal_ss, Tl.dScal_bb, Tl.dScal_nn, Tl.dScal_ni, Tl.dScal_in, Tl.dScal_is, Tl.dScal_si, Tl.uIsN, Tl.uNotN, Tl.nonD_n, Tl.nonD_i, Tl.nonD_s, Tl.nonD_t, Tl.nonD_l, Tl.nonD_b, Tl.nonD_r, Tl.uCatS, Tl.uCatL, Tl.uCatM, Tl.lstOf_l, Tl.lstOf_c, Tl.lstOf_m, Tl.trkOf_l, Tl.trkOf_m, Tl.tupOf_t, Tl.tupOf_b, Tl.seqOf_t, Tl.seqOf_b, Tl.seqOf_l, Tl.seqOf_c, Tl.seqOf_r, Tl.uIx_t, Tl.uIx_b, Tl.uIx_l, Tl.uIx_c, Tl.uIx_s, Tl.uIx_r, Tl.uYes, Tl.uSlL, Tl.uSlM, Tl.uSlS, Tl.uIsi, Tl.dTy_n, Tl.dTy_b, Tl.dTy_i, Tl.dTy_s, Tl.dTy_t, Tl.dTy_l, Tl.uLen, Tl.lenOf_t, Tl.lenOf_b, Tl.lenOf_l, Tl.lenOf_c, Tl.lenOf_m, Tl.uIntI, Tl.uIntB, Tl.uLs, Tl.uTu, Tl.oL1_i, Tl.oL2_i, Tl.oL3_i, Tl.uR1, Tl.uR2, Tl.uR3, Tl.uEn, Tl.uZi, Tl.uSt, Tl.uRv, Tl.uDivmod, Tl.uList, Tl.uListM, Tl.uSum, Tl.uMax, Tl.uMin, Tl.intLst_l, Tl.intLst_c, Tl.blLst_l, Tl.uMax2, Tl.uMin2, Tl.uAbs, Tl.uAny, Tl.uAll, Tl.mLst_m, Tl.uAppend, Tl.uExtend, Tl.uPop, Tl.uSet, Tl.lMt_l, Tl.isS_m, Tl.atI_0, Tl.atI_1, Tl.atI_2, Tl.atI_3, Tl.atI_4, Tl.atI_5])
local macro_rules | `(tactic| walk_at "vh") => `(tactic| simp only [Tl.tRe, Tl.sRe, Tl.wip, Tl.uObj, Tl.oAt_i, Tl.cxK, Tl.cxKn, true_or, or_true, or_false, false_or, Nat.zero_le, Nat.le_refl, Tl.mup_same, Tl.mup_mup, Tl.uAlt, Tl.tFd, Tl.sFd, Tl.sFa, Tl.tMe, Tl.tMk, Tl.nthD, Tl.putD, Tl.uFo, Tl.uLcF, Tl.uLcV', Tl.uAsRef, Tl.sNx, Tl.sSq, Tl.sBk, Tl.sCt, Tl.sDr, Tl.sRt, Tl.sRtN, Tl.sIf, Tl.sAs, Tl.gN, Tl.gSb, Tl.tK, Tl.tO, Tl.tU, Tl.tCa, Tl.tN, Tl.tCs, Tl.tAn, Tl.tOr', Tl.tNo, Tl.tIfE, Tl.tCl, Tl.tTu, Tl.tLi, Tl.tLm, Tl.tSc, Tl.oNo, Tl.tMt, Tl.tMt0, Tl.tYe, Tl.tLt, Tl.kit_ii, Tl.kit_ib, Tl.kit_bi, Tl.kit_bb, Tl.kit_si, Tl.kit_ss, Tl.kit_is, Tl.kit_tt, Tl.kit_ll, Tl.kit_lt, Tl.kit_tl, Tl.kit_ts, Tl.kit_ls, Tl.kit_sl, Tl.kit_st, Tl.kit_it, Tl.kit_il, Tl.kit_dd, Tl.kit_ni, Tl.kit_nb, Tl.begin_, Tl.nth, List.map, List.length, List.replicate, List.append, List.set, List.nil_append, List.cons_append, List.append_nil, Nat.reduceAdd, Nat.reduceSub, Nat.zero_add, reduceIte, Bool.false_eq_true, Bool.true_eq_false, Bool.not_eq_true', Bool.not_eq_false', Bool.not_true, Bool.not_false, not_true_eq_false, not_false_eq_true, decide_eq_true_eq, decide_eq_false_iff_not, decide_not, Option.isSome_some, true_and, and_true, Int.reduceLT, Int.reduceLE, Int.reduceNeg, List.cons.injEq, Option.some.injEq, PySem.sizeLine_eq, Nat.reduceLeDiff, List.length_map, List.length_append, List.length_cons, List.length_nil, Tl.oBl_i, Tl.oInt_i, Tl.oStr_i, Tl.oTup_i, Tl.oSome_i, Tl.oBl_if, Tl.uV, Tl.uBo, Tl.uAnV, Tl.uOrV, Tl.uNoV, Tl.uCh, Tl.uNl0, Tl.uCs1, Tl.uTp, Tl.uAg, Tl.uInt, Tl.uInt0, Tl.uNegI, Tl.uEq, Tl.uNe, Tl.dScal_ii, Tl.dScal_ss, Tl.dScal_bb, Tl.dScal_nn, Tl.dScal_ni, Tl.dScal_in, Tl.dScal_is, Tl.dScal_si, Tl.uIsN, Tl.uNotN, Tl.nonD_n, Tl.nonD_i, Tl.nonD_s, Tl.nonD_t, Tl.nonD_l, Tl.nonD_b, Tl.nonD_r, Tl.uCatS, Tl.uCatL, Tl.uCatM, Tl.lstOf_l, Tl.lstOf_c, Tl.lstOf_m, Tl.trkOf_l, Tl.trkOf_m, Tl.tupOf_t, Tl.tupOf_b, Tl.seqOf_t, Tl.seqOf_b, Tl.seqOf_l, Tl.seqOf_c, Tl.seqOf_r, Tl.uIx_t, Tl.uIx_b, Tl.uIx_l, Tl.uIx_c, Tl.uIx_s, Tl.uIx_r, Tl.uYes, Tl.uSlL, Tl.uSlM, Tl.uSlS, Tl.uIsi, Tl.dTy_n, Tl.dTy_b, Tl.dTy_i, Tl.dTy_s, Tl.dTy_t, Tl.dTy_l, Tl.uLen, Tl.lenOf_t, Tl.lenOf_b, Tl.lenOf_l, Tl.lenOf_c, Tl.lenOf_m, Tl.uIntI, Tl.uIntB, Tl.uLs, Tl.uTu, Tl.oL1_i, Tl.oL2_i, Tl.oL3_i, Tl.uR1, Tl.uR2, Tl.uR3, Tl.uEn, Tl.uZi, Tl.uSt, Tl.uRv, Tl.uDivmod, Tl.uList, Tl.uListM, Tl.uSum, Tl.uMax, Tl.uMin, Tl.intLst_l, Tl.intLst_c, Tl.blLst_l, Tl.uMax2, Tl.uMin2, Tl.uAbs, Tl.uAny, Tl.uAll, Tl.mLst_m, Tl.uAppend, Tl.uExtend, Tl.uPop, Tl.uSet, Tl.lMt_l, Tl.isS_m, Tl.atI_0, Tl.atI_1, Tl.atI_2, Tl.atI_3, Tl.atI_4, Tl.atI_5, *])

namespace K41
open PySem PySem.Spec PyProof.Rows L2 Tl
def top (i : Nat) : Stmt := PySem.Challenge.pw_widelanes_k41_joined.main.body.getD i (.Pass ⟨0, 0, 0, 0⟩)
def fl_Joint : List Str := ["brought"]
abbrev s_wrapped : Stmt := top 3
abbrev nm_wrapped : List Str := ["n"]
theorem sc_wrapped : FnScope nm_wrapped ["n"] (defScope s_wrapped) := ⟨rfl, rfl, rfl, by decide +kernel, rfl, by decide +kernel, by decide +kernel⟩
def e_wrapped : He.DefD := ⟨("wrapped", none), "wrapped", "wrapped", defArgs s_wrapped, defBody s_wrapped, defScope s_wrapped, [], []⟩
abbrev s_Joint___init : Stmt := inClass (top 5) 0
abbrev nm_Joint___init : List Str := ["self", "brought"]
theorem sc_Joint___init : FnScope nm_Joint___init ["self", "brought"] (defScope s_Joint___init) := ⟨rfl, rfl, rfl, by decide +kernel, rfl, by decide +kernel, by decide +kernel⟩
def e_Joint___init : He.DefD := ⟨("Joint", some "__init__"), "__init__", "Joint.__init__", defArgs s_Joint___init, defBody s_Joint___init, defScope s_Joint___init, [], []⟩
abbrev s_Most___init : Stmt := inClass (top 5) 0
abbrev nm_Most___init : List Str := ["self", "brought"]
theorem sc_Most___init : FnScope nm_Most___init ["self", "brought"] (defScope s_Most___init) := ⟨rfl, rfl, rfl, by decide +kernel, rfl, by decide +kernel, by decide +kernel⟩
def e_Most___init : He.DefD := ⟨("Most", some "__init__"), "__init__", "Joint.__init__", defArgs s_Most___init, defBody s_Most___init, defScope s_Most___init, [], []⟩
abbrev s_Least___init : Stmt := inClass (top 5) 0
abbrev nm_Least___init : List Str := ["self", "brought"]
theorem sc_Least___init : FnScope nm_Least___init ["self", "brought"] (defScope s_Least___init) := ⟨rfl, rfl, rfl, by decide +kernel, rfl, by decide +kernel, by decide +kernel⟩
def e_Least___init : He.DefD := ⟨("Least", some "__init__"), "__init__", "Joint.__init__", defArgs s_Least___init, defBody s_Least___init, defScope s_Least___init, [], []⟩
abbrev s_Ahead___init : Stmt := inClass (top 5) 0
abbrev nm_Ahead___init : List Str := ["self", "brought"]
theorem sc_Ahead___init : FnScope nm_Ahead___init ["self", "brought"] (defScope s_Ahead___init) := ⟨rfl, rfl, rfl, by decide +kernel, rfl, by decide +kernel, by decide +kernel⟩
def e_Ahead___init : He.DefD := ⟨("Ahead", some "__init__"), "__init__", "Joint.__init__", defArgs s_Ahead___init, defBody s_Ahead___init, defScope s_Ahead___init, [], []⟩
abbrev s_Joint_whole_numbers : Stmt := inClass (top 5) 1
abbrev nm_Joint_whole_numbers : List Str := ["self", "number"]
theorem sc_Joint_whole_numbers : FnScope nm_Joint_whole_numbers ["self"] (defScope s_Joint_whole_numbers) := ⟨rfl, rfl, rfl, by decide +kernel, rfl, by decide +kernel, by decide +kernel⟩
def e_Joint_whole_numbers : He.DefD := ⟨("Joint", some "whole_numbers"), "whole_numbers", "Joint.whole_numbers", defArgs s_Joint_whole_numbers, defBody s_Joint_whole_numbers, defScope s_Joint_whole_numbers, [], []⟩
abbrev s_Most_whole_numbers : Stmt := inClass (top 5) 1
abbrev nm_Most_whole_numbers : List Str := ["self", "number"]
theorem sc_Most_whole_numbers : FnScope nm_Most_whole_numbers ["self"] (defScope s_Most_whole_numbers) := ⟨rfl, rfl, rfl, by decide +kernel, rfl, by decide +kernel, by decide +kernel⟩
def e_Most_whole_numbers : He.DefD := ⟨("Most", some "whole_numbers"), "whole_numbers", "Joint.whole_numbers", defArgs s_Most_whole_numbers, defBody s_Most_whole_numbers, defScope s_Most_whole_numbers, [], []⟩
abbrev s_Least_whole_numbers : Stmt := inClass (top 5) 1
abbrev nm_Least_whole_numbers : List Str := ["self", "number"]
theorem sc_Least_whole_numbers : FnScope nm_Least_whole_numbers ["self"] (defScope s_Least_whole_numbers) := ⟨rfl, rfl, rfl, by decide +kernel, rfl, by decide +kernel, by decide +kernel⟩
def e_Least_whole_numbers : He.DefD := ⟨("Least", some "whole_numbers"), "whole_numbers", "Joint.whole_numbers", defArgs s_Least_whole_numbers, defBody s_Least_whole_numbers, defScope s_Least_whole_numbers, [], []⟩
abbrev s_Joint_gives : Stmt := inClass (top 5) 2
abbrev nm_Joint_gives : List Str := ["self", "lane"]
theorem sc_Joint_gives : FnScope nm_Joint_gives ["self", "lane"] (defScope s_Joint_gives) := ⟨rfl, rfl, rfl, by decide +kernel, rfl, by decide +kernel, by decide +kernel⟩
def e_Joint_gives : He.DefD := ⟨("Joint", some "gives"), "gives", "Joint.gives", defArgs s_Joint_gives, defBody s_Joint_gives, defScope s_Joint_gives, [], []⟩
abbrev s_Most_gives : Stmt := inClass (top 6) 0
abbrev nm_Most_gives : List Str := ["self", "lane"]
theorem sc_Most_gives : FnScope nm_Most_gives ["self", "lane"] (defScope s_Most_gives) := ⟨rfl, rfl, rfl, by decide +kernel, rfl, by decide +kernel, by decide +kernel⟩
def e_Most_gives : He.DefD := ⟨("Most", some "gives"), "gives", "Most.gives", defArgs s_Most_gives, defBody s_Most_gives, defScope s_Most_gives, [], []⟩
abbrev s_Least_gives : Stmt := inClass (top 7) 0
abbrev nm_Least_gives : List Str := ["self", "lane"]
theorem sc_Least_gives : FnScope nm_Least_gives ["self", "lane"] (defScope s_Least_gives) := ⟨rfl, rfl, rfl, by decide +kernel, rfl, by decide +kernel, by decide +kernel⟩
def e_Least_gives : He.DefD := ⟨("Least", some "gives"), "gives", "Least.gives", defArgs s_Least_gives, defBody s_Least_gives, defScope s_Least_gives, [], []⟩
abbrev s_Ahead_gives : Stmt := inClass (top 8) 0
abbrev nm_Ahead_gives : List Str := ["self", "lane", "lower"]
theorem sc_Ahead_gives : FnScope nm_Ahead_gives ["self", "lane"] (defScope s_Ahead_gives) := ⟨rfl, rfl, rfl, by decide +kernel, rfl, by decide +kernel, by decide +kernel⟩
def e_Ahead_gives : He.DefD := ⟨("Ahead", some "gives"), "gives", "Ahead.gives", defArgs s_Ahead_gives, defBody s_Ahead_gives, defScope s_Ahead_gives, [], []⟩
abbrev s_joint_of : Stmt := top 9
abbrev nm_joint_of : List Str := ["word", "brought"]
theorem sc_joint_of : FnScope nm_joint_of ["word", "brought"] (defScope s_joint_of) := ⟨rfl, rfl, rfl, by decide +kernel, rfl, by decide +kernel, by decide +kernel⟩
def e_joint_of : He.DefD := ⟨("joint_of", none), "joint_of", "joint_of", defArgs s_joint_of, defBody s_joint_of, defScope s_joint_of, [], []⟩
abbrev s_joined : Stmt := top 10
abbrev nm_joined : List Str := ["word", "brought", "lane", "joint"]
theorem sc_joined : FnScope nm_joined ["word", "brought", "lane"] (defScope s_joined) := ⟨rfl, rfl, rfl, by decide +kernel, rfl, by decide +kernel, by decide +kernel⟩
def e_joined : He.DefD := ⟨("joined", none), "joined", "joined", defArgs s_joined, defBody s_joined, defScope s_joined, [], []⟩
abbrev s_l_cell : Stmt := top 12
abbrev nm_l_cell : List Str := ["_law_script", "_law_k"]
theorem sc_l_cell : FnScope nm_l_cell ["_law_script", "_law_k"] (defScope s_l_cell) := ⟨rfl, rfl, rfl, by decide +kernel, rfl, by decide +kernel, by decide +kernel⟩
def e_l_cell : He.DefD := ⟨("_law_cell", none), "_law_cell", "_law_cell", defArgs s_l_cell, defBody s_l_cell, defScope s_l_cell, [], []⟩
abbrev s_l_same : Stmt := top 13
abbrev nm_l_same : List Str := ["_law_found", "_law_number_here"]
theorem sc_l_same : FnScope nm_l_same ["_law_found", "_law_number_here"] (defScope s_l_same) := ⟨rfl, rfl, rfl, by decide +kernel, rfl, by decide +kernel, by decide +kernel⟩
def e_l_same : He.DefD := ⟨("_law_same", none), "_law_same", "_law_same", defArgs s_l_same, defBody s_l_same, defScope s_l_same, [], []⟩
abbrev s_l_into_range : Stmt := top 14
abbrev nm_l_into_range : List Str := ["_law_number_here"]
theorem sc_l_into_range : FnScope nm_l_into_range ["_law_number_here"] (defScope s_l_into_range) := ⟨rfl, rfl, rfl, by decide +kernel, rfl, by decide +kernel, by decide +kernel⟩
def e_l_into_range : He.DefD := ⟨("_law_into_range", none), "_law_into_range", "_law_into_range", defArgs s_l_into_range, defBody s_l_into_range, defScope s_l_into_range, [], []⟩
abbrev s_l_mixed : Stmt := top 15
abbrev nm_l_mixed : List Str := ["_law_cell_here", "_law_k", "_law_number_here"]
theorem sc_l_mixed : FnScope nm_l_mixed ["_law_cell_here", "_law_k"] (defScope s_l_mixed) := ⟨rfl, rfl, rfl, by decide +kernel, rfl, by decide +kernel, by decide +kernel⟩
def e_l_mixed : He.DefD := ⟨("_law_mixed", none), "_law_mixed", "_law_mixed", defArgs s_l_mixed, defBody s_l_mixed, defScope s_l_mixed, [], []⟩
abbrev s_l_number : Stmt := top 16
abbrev nm_l_number : List Str := ["_law_cell_here", "_law_drawn", "_law_way", "_law_more"]
theorem sc_l_number : FnScope nm_l_number ["_law_cell_here", "_law_drawn"] (defScope s_l_number) := ⟨rfl, rfl, rfl, by decide +kernel, rfl, by decide +kernel, by decide +kernel⟩
def e_l_number : He.DefD := ⟨("_law_number", none), "_law_number", "_law_number", defArgs s_l_number, defBody s_l_number, defScope s_l_number, [], []⟩
abbrev s_l_row : Stmt := top 17
abbrev nm_l_row : List Str := ["_law_cells", "_law_start", "_law_row_here", "_law_k", "_law_cell_here", "_law_drawn", "_law_number_here"]
theorem sc_l_row : FnScope nm_l_row ["_law_cells", "_law_start"] (defScope s_l_row) := ⟨rfl, rfl, rfl, by decide +kernel, rfl, by decide +kernel, by decide +kernel⟩
def e_l_row : He.DefD := ⟨("_law_row", none), "_law_row", "_law_row", defArgs s_l_row, defBody s_l_row, defScope s_l_row, [], []⟩
abbrev s_l_holds : Stmt := top 18
abbrev nm_l_holds : List Str := ["_law_row_here", "_law_turned", "_law_kept", "_law_number_here", "_law_there", "_law_total", "_law_high", "_law_low", "_law_ahead", "_law_lane", "_law_asked", "_law_word"]
theorem sc_l_holds : FnScope nm_l_holds ["_law_row_here", "_law_turned"] (defScope s_l_holds) := ⟨rfl, rfl, rfl, by decide +kernel, rfl, by decide +kernel, by decide +kernel⟩
def e_l_holds : He.DefD := ⟨("_law_holds", none), "_law_holds", "_law_holds", defArgs s_l_holds, defBody s_l_holds, defScope s_l_holds, [], []⟩
abbrev s_law : Stmt := top 19
abbrev nm_law : List Str := ["_law_script", "_law_wide", "_law_cells", "_law_start", "_law_row_here"]
theorem sc_law : FnScope nm_law ["_law_script"] (defScope s_law) := ⟨rfl, rfl, rfl, by decide +kernel, rfl, by decide +kernel, by decide +kernel⟩
def e_law : He.DefD := ⟨("law", none), "law", "law", defArgs s_law, defBody s_law, defScope s_law, [], []⟩
def fn : List He.DefD := [e_wrapped, e_Joint___init, e_Most___init, e_Least___init, e_Ahead___init, e_Joint_whole_numbers, e_Most_whole_numbers, e_Least_whole_numbers, e_Joint_gives, e_Most_gives, e_Least_gives, e_Ahead_gives, e_joint_of, e_joined, e_l_cell, e_l_same, e_l_into_range, e_l_mixed, e_l_number, e_l_row, e_l_holds, e_law]
def fa : List He.Fa := [.glo "wrapped", .glo "joint_of", .glo "joined", .glo "_law_cell", .glo "_law_same", .glo "_law_into_range", .glo "_law_mixed", .glo "_law_number", .glo "_law_row", .glo "_law_holds", .glo "law", .int "HALF" 2147483648, .int "ROUND" 4294967296, .cls "Joint", .noat "Joint" "brought", .cls "Most", .noat "Most" "brought", .cls "Least", .noat "Least" "brought", .cls "Ahead", .noat "Ahead" "brought", .mkr "Joint", .glo "Joint", .mkr "Most", .glo "Most", .mkr "Least", .glo "Least", .mkr "Ahead", .glo "Ahead", .meth "Joint" "whole_numbers", .meth "Most" "whole_numbers", .meth "Least" "whole_numbers", .meth "Joint" "gives", .meth "Most" "gives", .meth "Least" "gives", .meth "Ahead" "gives", .free "sum", .free "max", .free "min", .free "len", .free "isinstance", .free "bool", .free "int", .free "enumerate", .free "list", .free "range"]
abbrev Tp (K : PySem.W.Frag) (mg : Str → Option Value) : Prop := Top fa fn K mg
section
variable {K : PySem.W.Frag} {mg : Str → Option Value}
theorem m_wrapped (T : Tp K mg) : mg "wrapped" = some (.ref (He.ga K "wrapped")) := T.glo 0
theorem m_joint_of (T : Tp K mg) : mg "joint_of" = some (.ref (He.ga K "joint_of")) := T.glo 1
theorem m_joined (T : Tp K mg) : mg "joined" = some (.ref (He.ga K "joined")) := T.glo 2
theorem m_l_cell (T : Tp K mg) : mg "_law_cell" = some (.ref (He.ga K "_law_cell")) := T.glo 3
theorem m_l_same (T : Tp K mg) : mg "_law_same" = some (.ref (He.ga K "_law_same")) := T.glo 4
theorem m_l_into_range (T : Tp K mg) : mg "_law_into_range" = some (.ref (He.ga K "_law_into_range")) := T.glo 5
theorem m_l_mixed (T : Tp K mg) : mg "_law_mixed" = some (.ref (He.ga K "_law_mixed")) := T.glo 6
theorem m_l_number (T : Tp K mg) : mg "_law_number" = some (.ref (He.ga K "_law_number")) := T.glo 7
theorem m_l_row (T : Tp K mg) : mg "_law_row" = some (.ref (He.ga K "_law_row")) := T.glo 8
theorem m_l_holds (T : Tp K mg) : mg "_law_holds" = some (.ref (He.ga K "_law_holds")) := T.glo 9
theorem m_law (T : Tp K mg) : mg "law" = some (.ref (He.ga K "law")) := T.glo 10
theorem m_HALF (T : Tp K mg) : ∃ t, mg "HALF" = some (.int 2147483648 t) := T.int 11
theorem m_ROUND (T : Tp K mg) : ∃ t, mg "ROUND" = some (.int 4294967296 t) := T.int 12
theorem c_Joint_brought (T : Tp K mg) : ∀ C, (C = He.ga K "Joint" ∨ C = He.ga K "Most" ∨ C = He.ga K "Least" ∨ C = He.ga K "Ahead") → Cls K C ∧ NoAttr K C "brought" := by
  rintro _ (rfl | rfl | rfl | rfl)
  · exact ⟨T.cls 13, T.noat 14⟩
  · exact ⟨T.cls 15, T.noat 16⟩
  · exact ⟨T.cls 17, T.noat 18⟩
  · exact ⟨T.cls 19, T.noat 20⟩
theorem m_sum (T : Tp K mg) : mg "sum" = none := T.free 36
theorem m_max (T : Tp K mg) : mg "max" = none := T.free 37
theorem m_min (T : Tp K mg) : mg "min" = none := T.free 38
theorem m_len (T : Tp K mg) : mg "len" = none := T.free 39
theorem m_isinstance (T : Tp K mg) : mg "isinstance" = none := T.free 40
theorem m_bool (T : Tp K mg) : mg "bool" = none := T.free 41
theorem m_int (T : Tp K mg) : mg "int" = none := T.free 42
theorem m_enumerate (T : Tp K mg) : mg "enumerate" = none := T.free 43
theorem m_list (T : Tp K mg) : mg "list" = none := T.free 44
theorem m_range (T : Tp K mg) : mg "range" = none := T.free 45
end
section
variable {P : Program} {w : World} {K : PySem.W.Frag} {mg : Str → Option Value} {base : Heap}
def sp1 (f : Int → Int) : SpT := fun ds M Q _ => ∃ n, ds = [.int n] ∧ Q (.int (f n)) M
def fWrap (n : Int) : Int := (n + 2147483648) % 4294967296 - 2147483648
theorem ok_wrapped (T : Tp K mg) : Fn P w K mg base CX0 1 "wrapped" (sp1 fWrap) := by
  refine fn_top T 0 e_wrapped (m_wrapped T) sc_wrapped (by rintro _ M Q Et ⟨n, rfl, _⟩; rfl) (fun cdv A outer s H E hr => ⟨_, (qss_one (qs_ret (q_op oq_sub (q_op oq_mod (q_op oq_addI (qv 0) (q_gint (m_HALF T))) (q_gint (m_ROUND T))) (q_gint (m_HALF T))))), ?_⟩) (fun _ _ _ _ _ _ us hl => match us, hl with | [_], _ => rfl)
  rintro _ M Q Et ⟨n, rfl, h⟩
  walk_at "vc"
  exact h
def spInit (K : PySem.W.Frag) (c : Str) : SpT := fun ds M Q _ => ∃ a dx b, ds = [.ref a, b] ∧ M a = some (.obj (He.ga K c) dx fl_Joint []) ∧ Q .non (mup M a (.obj (He.ga K c) dx fl_Joint [b]))
theorem ok_Joint___init (T : Tp K mg) : Fi P w K mg base CX0 1 "Joint" (spInit K "Joint") := by
  refine fi_top T e_Joint___init 1 sc_Joint___init (T.mkr 21) (T.glo 22) (by rintro _ M Q Et ⟨n, _, z, rfl, _⟩; rfl) (fun cdv A outer s H E hr => ⟨_, (qss_one (qs_fld 0 fl_Joint (c_Joint_brought T) (qv 0) (qv 1))), ?_⟩) (fun _ _ _ _ _ _ us hl => match us, hl with | [_, _], _ => rfl)
  rintro _ M Q Et ⟨a, dx, b, rfl, hM, h⟩
  walk_at "vh"
theorem ok_Most___init (T : Tp K mg) : Fi P w K mg base CX0 1 "Most" (spInit K "Most") := by
  refine fi_top T e_Most___init 2 sc_Most___init (T.mkr 23) (T.glo 24) (by rintro _ M Q Et ⟨n, _, z, rfl, _⟩; rfl) (fun cdv A outer s H E hr => ⟨_, (qss_one (qs_fld 0 fl_Joint (c_Joint_brought T) (qv 0) (qv 1))), ?_⟩) (fun _ _ _ _ _ _ us hl => match us, hl with | [_, _], _ => rfl)
  rintro _ M Q Et ⟨a, dx, b, rfl, hM, h⟩
  walk_at "vh"
theorem ok_Least___init (T : Tp K mg) : Fi P w K mg base CX0 1 "Least" (spInit K "Least") := by
  refine fi_top T e_Least___init 3 sc_Least___init (T.mkr 25) (T.glo 26) (by rintro _ M Q Et ⟨n, _, z, rfl, _⟩; rfl) (fun cdv A outer s H E hr => ⟨_, (qss_one (qs_fld 0 fl_Joint (c_Joint_brought T) (qv 0) (qv 1))), ?_⟩) (fun _ _ _ _ _ _ us hl => match us, hl with | [_, _], _ => rfl)
  rintro _ M Q Et ⟨a, dx, b, rfl, hM, h⟩
  walk_at "vh"
theorem ok_Ahead___init (T : Tp K mg) : Fi P w K mg base CX0 1 "Ahead" (spInit K "Ahead") := by
  refine fi_top T e_Ahead___init 4 sc_Ahead___init (T.mkr 27) (T.glo 28) (by rintro _ M Q Et ⟨n, _, z, rfl, _⟩; rfl) (fun cdv A outer s H E hr => ⟨_, (qss_one (qs_fld 0 fl_Joint (c_Joint_brought T) (qv 0) (qv 1))), ?_⟩) (fun _ _ _ _ _ _ us hl => match us, hl with | [_, _], _ => rfl)
  rintro _ M Q Et ⟨a, dx, b, rfl, hM, h⟩
  walk_at "vh"
def dO : Option Int → D
  | none => .non
  | some n => .int n
def nums (os : List (Option Int)) : List Int := os.filterMap id
theorem nums_map (os : List (Option Int)) : (os.filter (·.isSome)).map dO = (nums os).map D.int := by
  induction os with
  | nil => rfl
  | cons o t ih =>
    cases o with
    | none => exact ih
    | some n =>
      show dO (some n) :: (t.filter (·.isSome)).map dO = .int n :: (nums t).map D.int
      rw [ih]; rfl
def isJ (K : PySem.W.Frag) (c : Str) (M : MH) (a : Addr) (os : List (Option Int)) : Prop := ∃ dx, M a = some (.obj (He.ga K c) dx fl_Joint [.lst (os.map dO)]) ∧ os.length ≤ 1000
def spWhole (K : PySem.W.Frag) (c : Str) : SpT := fun ds M Q _ => ∃ a os, ds = [.ref a] ∧ isJ K c M a os ∧ Q (.lst ((nums os).map D.int)) M
theorem ok_Joint_whole_numbers (T : Tp K mg) : Fm P w K mg base CX0 1 "Joint" "whole_numbers" (spWhole K "Joint") := by
  refine fm_top T e_Joint_whole_numbers 5 sc_Joint_whole_numbers (T.meth 29) (T.cls 13) (by rintro _ M Q Et ⟨n, _, rfl, _⟩; rfl) (fun cdv A outer s H E hr => ⟨_, (qss_one (qs_ret (q_lc rfl sc_Joint_whole_numbers.nd (qi_list (q_fld 0 fl_Joint (c_Joint_brought T) (qv 0))) (blkOk_by (N := nm_Joint_whole_numbers) (sc := defScope s_Joint_whole_numbers) (own := [(("number" : Str), 1)]) (by decide +kernel)) go_name (fun _ _ _ _ _ => (pg_name (i := 1) sc_Joint_whole_numbers.nd rfl (Or.inl rfl))) (fun _ _ _ _ _ => (qts_one (qt_cmp oq_notN (qv 1) q_non))) (fun _ _ _ _ _ => (qv 1))))), ?_⟩) (fun _ _ _ _ _ _ us hl => match us, hl with | [_], _ => rfl)
  rintro _ M Q Et ⟨a, os, rfl, ⟨dx, hM, hl⟩, h⟩
  walk_at "vh"
  refine lc_filter os dO (·.isSome) dO rfl ?_ ?_ (fun o R1 R0 ho h1 h0 => ?_) ?_
  · rw [PySem.sizeLine_eq]; omega
  · trivial
  · cases o with
    | none => walk_at "vc"; exact h0 rfl
    | some n => walk_at "vc"; exact h1 rfl
  · rw [nums_map]; exact h
theorem ok_Most_whole_numbers (T : Tp K mg) : Fm P w K mg base CX0 1 "Most" "whole_numbers" (spWhole K "Most") := by
  refine fm_top T e_Most_whole_numbers 6 sc_Most_whole_numbers (T.meth 30) (T.cls 15) (by rintro _ M Q Et ⟨n, _, rfl, _⟩; rfl) (fun cdv A outer s H E hr => ⟨_, (qss_one (qs_ret (q_lc rfl sc_Most_whole_numbers.nd (qi_list (q_fld 0 fl_Joint (c_Joint_brought T) (qv 0))) (blkOk_by (N := nm_Most_whole_numbers) (sc := defScope s_Most_whole_numbers) (own := [(("number" : Str), 1)]) (by decide +kernel)) go_name (fun _ _ _ _ _ => (pg_name (i := 1) sc_Most_whole_numbers.nd rfl (Or.inl rfl))) (fun _ _ _ _ _ => (qts_one (qt_cmp oq_notN (qv 1) q_non))) (fun _ _ _ _ _ => (qv 1))))), ?_⟩) (fun _ _ _ _ _ _ us hl => match us, hl with | [_], _ => rfl)
  rintro _ M Q Et ⟨a, os, rfl, ⟨dx, hM, hl⟩, h⟩
  walk_at "vh"
  refine lc_filter os dO (·.isSome) dO rfl ?_ ?_ (fun o R1 R0 ho h1 h0 => ?_) ?_
  · rw [PySem.sizeLine_eq]; omega
  · trivial
  · cases o with
    | none => walk_at "vc"; exact h0 rfl
    | some n => walk_at "vc"; exact h1 rfl
  · rw [nums_map]; exact h
theorem ok_Least_whole_numbers (T : Tp K mg) : Fm P w K mg base CX0 1 "Least" "whole_numbers" (spWhole K "Least") := by
  refine fm_top T e_Least_whole_numbers 7 sc_Least_whole_numbers (T.meth 31) (T.cls 17) (by rintro _ M Q Et ⟨n, _, rfl, _⟩; rfl) (fun cdv A outer s H E hr => ⟨_, (qss_one (qs_ret (q_lc rfl sc_Least_whole_numbers.nd (qi_list (q_fld 0 fl_Joint (c_Joint_brought T) (qv 0))) (blkOk_by (N := nm_Least_whole_numbers) (sc := defScope s_Least_whole_numbers) (own := [(("number" : Str), 1)]) (by decide +kernel)) go_name (fun _ _ _ _ _ => (pg_name (i := 1) sc_Least_whole_numbers.nd rfl (Or.inl rfl))) (fun _ _ _ _ _ => (qts_one (qt_cmp oq_notN (qv 1) q_non))) (fun _ _ _ _ _ => (qv 1))))), ?_⟩) (fun _ _ _ _ _ _ us hl => match us, hl with | [_], _ => rfl)
  rintro _ M Q Et ⟨a, os, rfl, ⟨dx, hM, hl⟩, h⟩
  walk_at "vh"
  refine lc_filter os dO (·.isSome) dO rfl ?_ ?_ (fun o R1 R0 ho h1 h0 => ?_) ?_
  · rw [PySem.sizeLine_eq]; omega
  · trivial
  · cases o with
    | none => walk_at "vc"; exact h0 rfl
    | some n => walk_at "vc"; exact h1 rfl
  · rw [nums_map]; exact h

def spGives (K : PySem.W.Frag) (c : Str) (ok : List (Option Int) → Nat → Int → Prop) : SpT := fun ds M Q _ => ∃ (a : Addr) (os : List (Option Int)) (lane : Nat), ds = [.ref a, .int lane] ∧ isJ K c M a os ∧ nums os ≠ [] ∧ ∀ r, ok os lane r → Q (.int r) M
def isSum (os : List (Option Int)) (_ : Nat) (r : Int) : Prop := r = fWrap (nums os).sum
def isMost (os : List (Option Int)) (_ : Nat) (r : Int) : Prop := r ∈ nums os ∧ ∀ y ∈ nums os, y ≤ r
def isLeast (os : List (Option Int)) (_ : Nat) (r : Int) : Prop := r ∈ nums os ∧ ∀ y ∈ nums os, r ≤ y
def isAhead (os : List (Option Int)) (lane : Nat) (r : Int) : Prop := r = fWrap (nums (os.take lane)).sum
def spGives0 (K : PySem.W.Frag) : SpT := fun ds M Q _ => ∃ (a : Addr) (os : List (Option Int)) (lane : Nat), ds = [.ref a, .int lane] ∧ isJ K "Joint" M a os ∧ ∀ r, isSum os lane r → Q (.int r) M
theorem ok_Joint_gives (T : Tp K mg) : Fm P w K mg base CX0 2 "Joint" "gives" (spGives0 K) := by
  refine fm_top T e_Joint_gives 8 sc_Joint_gives (T.meth 32) (T.cls 13) (by rintro _ M Q Et ⟨n, _, _, rfl, _⟩; rfl) (fun cdv A outer s H E hr => ⟨_, (qss_one (qs_ret (q_call (ok_wrapped T) (hr.mono (by decide)) (qa_cons (q_callB (cq_sum rfl) (m_sum T) (by decide +kernel) (qa_cons (q_meth0 fl_Joint (ok_Joint_whole_numbers T) (hr.mono (by decide)) (qv 0)) qa_nil)) qa_nil)))), ?_⟩) (fun _ _ _ _ _ _ us hl => match us, hl with | [_, _], _ => rfl)
  rintro _ M Q Et ⟨a, os, lane, rfl, hj, h⟩
  have hj2 := hj
  obtain ⟨dx, hM, hl⟩ := hj2
  walk_at "vh"
  refine ⟨a, os, rfl, hj, ?_⟩
  simp only [uSum, intLst_l, oSome_i]
  exact ⟨_, rfl, h _ rfl⟩
theorem ok_Most_gives (T : Tp K mg) : Fm P w K mg base CX0 2 "Most" "gives" (spGives K "Most" isMost) := by
  refine fm_top T e_Most_gives 9 sc_Most_gives (T.meth 33) (T.cls 15) (by rintro _ M Q Et ⟨n, _, _, rfl, _⟩; rfl) (fun cdv A outer s H E hr => ⟨_, (qss_one (qs_ret (q_callB (cq_max rfl) (m_max T) (by decide +kernel) (qa_cons (q_meth0 fl_Joint (ok_Most_whole_numbers T) (hr.mono (by decide)) (qv 0)) qa_nil)))), ?_⟩) (fun _ _ _ _ _ _ us hl => match us, hl with | [_, _], _ => rfl)
  rintro _ M Q Et ⟨a, os, lane, rfl, hj, hne, h⟩
  have hj2 := hj
  obtain ⟨dx, hM, hl⟩ := hj2
  walk_at "vh"
  refine ⟨a, os, rfl, hj, ?_⟩
  simp only [uMax, intLst_l, oSome_i]
  exact ⟨List.length_pos_iff.mpr hne, fun m hm hy => h m ⟨hm, hy⟩⟩
theorem ok_Least_gives (T : Tp K mg) : Fm P w K mg base CX0 2 "Least" "gives" (spGives K "Least" isLeast) := by
  refine fm_top T e_Least_gives 10 sc_Least_gives (T.meth 34) (T.cls 17) (by rintro _ M Q Et ⟨n, _, _, rfl, _⟩; rfl) (fun cdv A outer s H E hr => ⟨_, (qss_one (qs_ret (q_callB (cq_min rfl) (m_min T) (by decide +kernel) (qa_cons (q_meth0 fl_Joint (ok_Least_whole_numbers T) (hr.mono (by decide)) (qv 0)) qa_nil)))), ?_⟩) (fun _ _ _ _ _ _ us hl => match us, hl with | [_, _], _ => rfl)
  rintro _ M Q Et ⟨a, os, lane, rfl, hj, hne, h⟩
  have hj2 := hj
  obtain ⟨dx, hM, hl⟩ := hj2
  walk_at "vh"
  refine ⟨a, os, rfl, hj, ?_⟩
  simp only [uMin, intLst_l, oSome_i]
  exact ⟨List.length_pos_iff.mpr hne, fun m hm hy => h m ⟨hm, hy⟩⟩
theorem cut_take (os : List (Option Int)) (lane : Nat) : Tl.cutD (os.map dO) none (some (lane : Int)) = (os.take lane).map dO := by
  unfold Tl.cutD
  rw [List.map_take]
  rw [HT.sIx_nat, HT.sIx_none, List.drop_zero, Nat.sub_zero, List.take_eq_take_iff]
  omega
theorem ok_Ahead_gives (T : Tp K mg) : Fm P w K mg base CX0 3 "Ahead" "gives" (spGives K "Ahead" isAhead) := by
  refine fm_top T e_Ahead_gives 11 sc_Ahead_gives (T.meth 35) (T.cls 19) (by rintro _ M Q Et ⟨n, _, _, rfl, _⟩; rfl) (fun cdv A outer s H E hr => ⟨_, (qss_cons (qs_set (i := 2) sc_Ahead_gives.nd (q_make fl_Joint (ok_Joint___init T) (hr.mono (by decide)) (qa_cons (q_sliceL (q_fld 0 fl_Joint (c_Joint_brought T) (qv 0)) qo_none (qo_some (qv 1))) qa_nil)))
 (qss_one (qs_ret (q_re (q_meth fl_Joint (ok_Joint_gives T) (hr.mono (by decide)) (qv 2) (qa_cons (qv 1) qa_nil)))))), ?_⟩) (fun _ _ _ _ _ _ us hl => match us, hl with | [_, _], _ => rfl)
  rintro _ M Q Et ⟨a, os, lane, rfl, hj, hne, h⟩
  have hj2 := hj
  obtain ⟨dx, hM, hl⟩ := hj2
  walk_at "vh"
  intro x dx2 hx
  refine ⟨x, dx2, _, rfl, mup_same, ?_⟩
  rw [mup_mup]
  walk_at "vc"
  refine ⟨x, os.take lane, lane, rfl, ⟨dx2, by rw [mup_same, cut_take], by rw [List.length_take]; omega⟩, ?_⟩
  rintro r rfl
  exact ⟨_, M, ReR.new hx, h _ rfl⟩
def clsOf (z : Str) : Str := if z = "most" then "Most" else if z = "least" then "Least" else if z = "ahead" then "Ahead" else "Joint"
def spJointOf (K : PySem.W.Frag) : SpT := fun ds M Q _ => ∃ z b, ds = [.str z, b] ∧ ∀ a dx, M a = none → Q (.ref a) (mup M a (.obj (He.ga K (clsOf z)) dx fl_Joint [b]))
theorem ok_joint_of (T : Tp K mg) : Fn P w K mg base CX0 3 "joint_of" (spJointOf K) := by
  refine fn_top T 12 e_joint_of (m_joint_of T) sc_joint_of (by rintro _ M Q Et ⟨n, _, rfl, _⟩; rfl) (fun cdv A outer s H E hr => ⟨_, (qss_cons (qs_if (qt_cmp oq_eq (qv 0) q_str)
  (qss_one (qs_ret (q_make fl_Joint (ok_Most___init T) (hr.mono (by decide)) (qa_cons (qv 1) qa_nil))))
  qss_nil)
 (qss_cons (qs_if (qt_cmp oq_eq (qv 0) q_str)
  (qss_one (qs_ret (q_make fl_Joint (ok_Least___init T) (hr.mono (by decide)) (qa_cons (qv 1) qa_nil))))
  qss_nil)
 (qss_cons (qs_if (qt_cmp oq_eq (qv 0) q_str)
  (qss_one (qs_ret (q_make fl_Joint (ok_Ahead___init T) (hr.mono (by decide)) (qa_cons (qv 1) qa_nil))))
  qss_nil)
 (qss_one (qs_ret (q_make fl_Joint (ok_Joint___init T) (hr.mono (by decide)) (qa_cons (qv 1) qa_nil))))))), ?_⟩) (fun _ _ _ _ _ _ us hl => match us, hl with | [_, _], _ => rfl)
  rintro _ M Q Et ⟨z, b, rfl, h⟩
  unfold clsOf at h
  walk_at "vc"
  split
  · rename_i e
    simp only [if_pos e] at h
    intro x dx hx
    refine ⟨x, dx, b, rfl, mup_same, rfl, ?_⟩
    rw [mup_mup]
    exact h x dx hx
  · rename_i e
    simp only [if_neg e] at h
    split
    · rename_i e2
      simp only [if_pos e2] at h
      intro x dx hx
      refine ⟨x, dx, b, rfl, mup_same, rfl, ?_⟩
      rw [mup_mup]
      exact h x dx hx
    · rename_i e2
      simp only [if_neg e2] at h
      split
      · rename_i e3
        simp only [if_pos e3] at h
        intro x dx hx
        refine ⟨x, dx, b, rfl, mup_same, rfl, ?_⟩
        rw [mup_mup]
        exact h x dx hx
      · rename_i e3
        simp only [if_neg e3] at h
        intro x dx hx
        refine ⟨x, dx, b, rfl, mup_same, rfl, ?_⟩
        rw [mup_mup]
        exact h x dx hx
def ans (z : Str) (os : List (Option Int)) (lane : Nat) (r : Int) : Prop := if z = "most" then isMost os lane r else if z = "least" then isLeast os lane r else if z = "ahead" then isAhead os lane r else isSum os lane r
def spJoined : SpT := fun ds M Q _ => ∃ (z : Str) (os : List (Option Int)) (lane : Nat), ds = [.str z, .lst (os.map dO), .int lane] ∧ os.length ≤ 1000 ∧ nums os ≠ [] ∧ ∀ r, ans z os lane r → Q (.int r) M
theorem ok_joined (T : Tp K mg) : Fn P w K mg base CX0 4 "joined" spJoined := by
  refine fn_top T 13 e_joined (m_joined T) sc_joined (by rintro _ M Q Et ⟨n, _, _, rfl, _⟩; rfl) (fun cdv A outer s H E hr => ⟨_, (qss_cons (qs_set (i := 3) sc_joined.nd (q_call (ok_joint_of T) (hr.mono (by decide)) (qa_cons (qv 0) (qa_cons (qv 1) qa_nil))))
 (qss_one (qs_ret (q_re (q_alt (q_meth fl_Joint (ok_Joint_gives T) (hr.mono (by decide)) (qv 3) (qa_cons (qv 2) qa_nil)) (q_alt (q_meth fl_Joint (ok_Most_gives T) (hr.mono (by decide)) (qv 3) (qa_cons (qv 2) qa_nil)) (q_alt (q_meth fl_Joint (ok_Least_gives T) (hr.mono (by decide)) (qv 3) (qa_cons (qv 2) qa_nil)) (q_meth fl_Joint (ok_Ahead_gives T) (hr.mono (by decide)) (qv 3) (qa_cons (qv 2) qa_nil))))))))), ?_⟩) (fun _ _ _ _ _ _ us hl => match us, hl with | [_, _, _], _ => rfl)
  rintro _ M Q Et ⟨z, os, lane, rfl, hl, hne, h⟩
  walk_at "vc"
  refine ⟨z, _, rfl, fun x dx hx => ?_⟩
  walk_at "vc"
  unfold ans at h
  have fin : ∀ r, Q (.int r) M → ∃ d' M2, ReR K (.int r) (mup M x (.obj (He.ga K (clsOf z)) dx fl_Joint [.lst (os.map dO)])) d' M2 ∧ Q d' M2 := fun r hq => ⟨_, M, ReR.new hx, hq⟩
  have hj : isJ K (clsOf z) (mup M x (.obj (He.ga K (clsOf z)) dx fl_Joint [.lst (os.map dO)])) x os := ⟨dx, mup_same, hl⟩
  unfold clsOf at hj fin ⊢
  by_cases e : z = "most"
  · simp only [if_pos e] at h hj fin ⊢
    exact .inr (.inl ⟨trivial, x, os, lane, rfl, hj, hne, fun r hr => fin r (h r hr)⟩)
  · simp only [if_neg e] at h hj fin ⊢
    by_cases e2 : z = "least"
    · simp only [if_pos e2] at h hj fin ⊢
      exact .inr (.inr (.inl ⟨trivial, x, os, lane, rfl, hj, hne, fun r hr => fin r (h r hr)⟩))
    · simp only [if_neg e2] at h hj fin ⊢
      by_cases e3 : z = "ahead"
      · simp only [if_pos e3] at h hj fin ⊢
        exact .inr (.inr (.inr ⟨trivial, x, os, lane, rfl, hj, hne, fun r hr => fin r (h r hr)⟩))
      · simp only [if_neg e3] at h hj fin ⊢
        exact .inl ⟨trivial, x, os, lane, rfl, hj, fun r hr => fin r (h r hr)⟩

def spCell : SpT := fun ds M Q _ => ∃ (ns : List Int) (k : Nat), ds = [.scr (ns.map .int), .int k] ∧ ∀ r : Int, Q (.int r) M
theorem ok_l_cell (T : Tp K mg) : Fn P w K mg base CX0 1 "_law_cell" spCell := by
  refine fn_top T 14 e_l_cell (m_l_cell T) sc_l_cell (by rintro _ M Q Et ⟨n, _, rfl, _⟩; rfl) (fun cdv A outer s H E hr => ⟨_, (qss_cons (qs_if (qt_cmp oq_lt (qv 1) (q_callB cq_len (m_len T) (by decide +kernel) (qa_cons (qv 0) qa_nil)))
  (qss_one (qs_ret (q_ix (qv 0) (qv 1))))
  qss_nil)
 (qss_one (qs_ret q_int))), ?_⟩) (fun _ _ _ _ _ _ us hl => match us, hl with | [_, _], _ => rfl)
  rintro _ M Q Et ⟨ns, k, rfl, h⟩
  walk_at "vc"
  split
  · rename_i hk
    have hk2 : k < ns.length := by omega
    rw [atI_nat (v := .int ns[k]) (by rw [List.getElem?_map, List.getElem?_eq_getElem hk2]; rfl)]
    exact h _
  · exact h _
def spSame : SpT := fun ds M Q _ => ∃ n : Int, ds = [.int n, .int n] ∧ Q (.bl true) M
theorem ok_l_same (T : Tp K mg) : Fn P w K mg base CX0 1 "_law_same" spSame := by
  refine fn_top T 15 e_l_same (m_l_same T) sc_l_same (by rintro _ M Q Et ⟨n, rfl, _⟩; rfl) (fun cdv A outer s H E hr => ⟨_, (qss_one (qs_ret (q_and (q_callB cq_isi (m_isinstance T) (by decide +kernel) (qa_cons (qv 0) (qa_cons (q_ty "int" (m_int T) (by decide +kernel)) qa_nil))) (q_and (q_not (q_callB cq_isi (m_isinstance T) (by decide +kernel) (qa_cons (qv 0) (qa_cons (q_ty "bool" (m_bool T) (by decide +kernel)) qa_nil)))) (q_one (q_cmp oq_eq (qv 0) (qv 1))))))), ?_⟩) (fun _ _ _ _ _ _ us hl => match us, hl with | [_, _], _ => rfl)
  rintro _ M Q Et ⟨n, rfl, h⟩
  walk_at "vc"
  rw [decide_eq_true trivial]
  exact h
theorem ok_l_into_range (T : Tp K mg) : Fn P w K mg base CX0 1 "_law_into_range" (sp1 fWrap) := by
  refine fn_top T 16 e_l_into_range (m_l_into_range T) sc_l_into_range (by rintro _ M Q Et ⟨n, rfl, _⟩; rfl) (fun cdv A outer s H E hr => ⟨_, (qss_one (qs_ret (q_op oq_sub (q_op oq_mod (q_op oq_addI (qv 0) q_int) q_int) q_int))), ?_⟩) (fun _ _ _ _ _ _ us hl => match us, hl with | [_], _ => rfl)
  rintro _ M Q Et ⟨n, rfl, h⟩
  walk_at "vc"
  exact h
def spMixed : SpT := fun ds M Q _ => ∃ (c k : Int), ds = [.int c, .int k] ∧ (-100000 ≤ k ∧ k ≤ 100000) ∧ ∀ r : Int, (0 ≤ r ∧ r ≤ 2147483648) → Q (.int r) M
theorem ok_l_mixed (T : Tp K mg) : Fn P w K mg base CX0 1 "_law_mixed" spMixed := by
  refine fn_top T 17 e_l_mixed (m_l_mixed T) sc_l_mixed (by rintro _ M Q Et ⟨n, _, rfl, _⟩; rfl) (fun cdv A outer s H E hr => ⟨_, (qss_cons (qs_set (i := 2) sc_l_mixed.nd (q_op oq_mod (q_op oq_addI (q_op oq_addI (q_op oq_mod (qv 0) q_int) (q_op oq_mul q_int (qv 1))) q_int) q_int))
 (qss_cons (qs_set (i := 2) sc_l_mixed.nd (q_op oq_mod (q_op oq_mul (qv 2) (qv 2)) q_int))
 (qss_one (qs_ret (q_op oq_fdiv (q_op oq_mod (q_op oq_mul (qv 2) (q_op oq_addI (qv 2) q_int)) q_int) q_int))))), ?_⟩) (fun _ _ _ _ _ _ us hl => match us, hl with | [_, _], _ => rfl)
  rintro _ M Q Et ⟨c, k, rfl, hk, h⟩
  walk_at "vc"
  generalize hu : (c % 2147483647 + 16807 * k + 7) % 2147483629 = u
  have bu := modB (a := c % 2147483647 + 16807 * k + 7) (b := 2147483629) (by decide)
  rw [hu] at bu
  generalize hv : u * u % 2147483587 = v
  have bv := modB (a := u * u) (b := 2147483587) (by decide)
  rw [hv] at bv
  have bw := modB (a := v * (v + 48271)) (b := 2147483579) (by decide)
  refine ⟨wm60 (by omega) (by omega), wm60 (by omega) (by omega), wm60 (by omega) (by omega), wd60 (by decide) (by decide), h _ ?_⟩
  omega
def spNumber : SpT := fun ds M Q _ => ∃ (c k : Int), ds = [.int c, .int k] ∧ (0 ≤ k ∧ k ≤ 2147483648) ∧ ∀ r : Int, Q (.int r) M
theorem ok_l_number (T : Tp K mg) : Fn P w K mg base CX0 1 "_law_number" spNumber := by
  refine fn_top T 18 e_l_number (m_l_number T) sc_l_number (by rintro _ M Q Et ⟨n, _, rfl, _⟩; rfl) (fun cdv A outer s H E hr => ⟨_, (qss_cons (qs_set (i := 2) sc_l_number.nd (q_op oq_mod (q_op oq_fdiv (qv 1) q_int) q_int))
 (qss_cons (qs_set (i := 3) sc_l_number.nd (q_op oq_fdiv (qv 1) q_int))
 (qss_cons (qs_if (qt_cmp oq_eq (qv 2) q_int)
  (qss_one (qs_ret (q_op oq_sub (q_op oq_mod (qv 3) q_int) q_int)))
  qss_nil)
 (qss_cons (qs_if (qt_cmp oq_eq (qv 2) q_int)
  (qss_one (qs_ret (q_op oq_sub q_int (q_op oq_mod (qv 3) q_int))))
  qss_nil)
 (qss_cons (qs_if (qt_cmp oq_eq (qv 2) q_int)
  (qss_one (qs_ret (q_op oq_sub (q_op oq_mod (qv 3) q_int) q_int)))
  qss_nil)
 (qss_one (qs_ret (q_op oq_sub (q_op oq_mod (q_op oq_addI (qv 0) (q_op oq_mul (qv 3) q_int)) q_int) q_int)))))))), ?_⟩) (fun _ _ _ _ _ _ us hl => match us, hl with | [_, _], _ => rfl)
  rintro _ M Q Et ⟨c, k, rfl, hk, h⟩
  walk_at "vc"
  refine ⟨wd60 (by decide) (by decide), wd60 (by decide) (by decide), ?_⟩
  split
  · exact h _
  · split
    · exact h _
    · split
      · exact h _
      · exact ⟨wm60 (by omega) (by omega), h _⟩
theorem nums_ne {os : List (Option Int)} (h : (os.filter (·.isSome)).length ≠ 0) : nums os ≠ [] := by
  intro e
  have := nums_map os
  rw [e] at this
  apply h
  have h2 := congrArg List.length this
  simpa using h2
def spRow : SpT := fun ds M Q _ => ∃ (cs : List Int) (k : Nat), ds = [.lst (cs.map .int), .int k] ∧ 0 < cs.length ∧ cs.length ≤ 1000 ∧ k ≤ 1000 ∧ ∀ os : List (Option Int), os.length = cs.length → nums os ≠ [] → Q (.lst (os.map dO)) M
theorem ok_l_row (T : Tp K mg) : Fn P w K mg base CX0 2 "_law_row" spRow := by
  refine fn_top T 19 e_l_row (m_l_row T) sc_l_row (by rintro _ M Q Et ⟨n, _, rfl, _⟩; rfl) (fun cdv A outer s H E hr => ⟨_, (qss_cons (qs_set (i := 2) sc_l_row.nd (q_lstM qa_nil))
 (qss_cons (qs_for PassesOwn.never rfl (qi_enum (m_enumerate T) (qa_cons (qv 0) qa_nil)) (qg_tup (n := 2) rfl (qgs_cons (qg_name (i := 3) sc_l_row.nd) (qgs_cons (qg_name (i := 4) sc_l_row.nd) qgs_nil)))
  (qss_cons (qs_set (i := 5) sc_l_row.nd (q_call (ok_l_mixed T) (hr.mono (by decide)) (qa_cons (qv 4) (qa_cons (q_op oq_addI (qv 1) (qv 3)) qa_nil))))
 (qss_one (qs_if (qt_cmp oq_eq (q_op oq_mod (qv 5) q_int) q_int)
  (qss_one (qs_expr (q_append (qv 2) (qa_cons q_non qa_nil))))
  (qss_one (qs_expr (q_append (qv 2) (qa_cons (q_call (ok_l_number T) (hr.mono (by decide)) (qa_cons (qv 4) (qa_cons (qv 5) qa_nil))) qa_nil))))))))
 (qss_cons (qs_if (qt_cmp oq_eq (q_callB cq_len (m_len T) (by decide +kernel) (qa_cons (q_lc rfl sc_l_row.nd (qi_list (qv 2)) (blkOk_by (N := nm_l_row) (sc := defScope s_l_row) (own := [(("_law_number_here" : Str), 6)]) (by decide +kernel)) go_name (fun _ _ _ _ _ => (pg_name (i := 6) sc_l_row.nd rfl (Or.inl rfl))) (fun _ _ _ _ _ => (qts_one (qt_cmp oq_notN (qv 6) q_non))) (fun _ _ _ _ _ => (qv 6))) qa_nil)) q_int)
  (qss_one (qs_asg (q_call (ok_l_number T) (hr.mono (by decide)) (qa_cons (q_ix (qv 0) q_int) (qa_cons (q_call (ok_l_mixed T) (hr.mono (by decide)) (qa_cons (q_ix (qv 0) q_int) (qa_cons (qv 1) qa_nil))) qa_nil))) (qg_sub (qv 2) q_int sq_list)))
  qss_nil)
 (qss_one (qs_ret (q_re (qv 2))))))), ?_⟩) (fun _ _ _ _ _ _ us hl => match us, hl with | [_, _], _ => rfl)
  rintro _ M Q Et ⟨cs, k, rfl, h0, h1, hk, h⟩
  walk_at "vc"
  intro p hp
  refine for_any (fun i τ M' => ∃ (os : List (Option Int)) (v3 v4 v5 v6 : Option D), os.length = i ∧ τ = [some (.lst (cs.map .int)), some (.int k), some (.ref p), v3, v4, v5, v6] ∧ M' = mup M p (.lst (os.map dO))) ⟨[], none, none, none, none, rfl, rfl, rfl⟩ (fun _ _ _ _ => trivial) ?_ ?_
  · rintro i x τ M' hx ⟨os, v3, v4, v5, v6, hl, rfl, rfl⟩
    obtain ⟨y, hy, rfl⟩ := enumD_get hx
    rw [List.getElem?_map] at hy
    obtain ⟨c, hc, rfl⟩ := Option.map_eq_some_iff.mp hy
    have hi := (List.getElem?_eq_some_iff.mp hc).1
    walk_at "vc"
    refine ⟨c, k + i, by simp, by omega, fun r hr => ?_⟩
    walk_at "vc"
    split
    · refine ⟨by omega, os ++ [none], _, _, _, _, by simp [hl], ⟨rfl, rfl, rfl, rfl⟩, by simp [dO]⟩
    · refine ⟨c, r, rfl, hr, fun r2 => ?_⟩
      walk_at "vc"
      refine ⟨by omega, os ++ [some r2], _, _, _, _, by simp [hl], ⟨rfl, rfl, rfl, rfl⟩, by simp [dO]⟩
  · rintro τ M' ⟨os, v3, v4, v5, v6, hl, rfl, rfl⟩
    have hl2 : os.length = cs.length := by rw [hl]; simp [enumD]
    walk_at "vc"
    refine lc_filter os dO (·.isSome) dO rfl ?_ ?_ (fun o R1 R0 ho h1 h0 => ?_) ?_
    · rw [PySem.sizeLine_eq]; omega
    · exact lstOf_m
    · cases o with
      | none => walk_at "vc"; exact h0 rfl
      | some n => walk_at "vc"; exact h1 rfl
    · obtain ⟨c0, cs', rfl⟩ : ∃ c0 cs', cs = c0 :: cs' := by
        cases cs with
        | nil => simp at h0
        | cons c cs' => exact ⟨c, cs', rfl⟩
      walk_at "vc"
      split
      · refine ⟨c0, k, rfl, by omega, fun r hr => ?_⟩
        walk_at "vc"
        refine ⟨c0, r, rfl, hr, fun r2 => ?_⟩
        walk_at "vc"
        obtain ⟨o0, os', rfl⟩ : ∃ o0 os', os = o0 :: os' := by
          cases os with
          | nil => simp at hl2
          | cons c cs' => exact ⟨c, cs', rfl⟩
        rw [show ixN (o0 :: os').length 0 = some 0 from by rw [ixN, List.length_cons]; simp]
        refine ⟨_, _, ReR.made (ds := ((some r2 :: os').map dO)) hp, h (some r2 :: os') hl2 (by intro e; cases e)⟩
      · rename_i hf
        exact ⟨_, _, ReR.made hp, h os hl2 (nums_ne (by omega))⟩
def mMx (l : List Int) (a : Int) (r : Int) : Prop := r ∈ a :: l ∧ ∀ y ∈ a :: l, y ≤ r
def mMn (l : List Int) (a : Int) (r : Int) : Prop := r ∈ a :: l ∧ ∀ y ∈ a :: l, r ≤ y
def spHolds : SpT := fun ds M Q _ => ∃ (os : List (Option Int)) (k : Int), ds = [.lst (os.map dO), .int k] ∧ 0 < os.length ∧ os.length ≤ 1000 ∧ nums os ≠ [] ∧ (0 ≤ k ∧ k < 4) ∧ Q (.bl true) M
theorem ok_l_holds (T : Tp K mg) : Fn P w K mg base CX0 5 "_law_holds" spHolds := by
  refine fn_top T 20 e_l_holds (m_l_holds T) sc_l_holds (by rintro _ M Q Et ⟨n, _, rfl, _⟩; rfl) (fun cdv A outer s H E hr => ⟨_, (qss_cons (qs_set (i := 2) sc_l_holds.nd (q_callTy cq_list (m_list T) (by decide +kernel) (qa_cons (qv 0) qa_nil)))
 (qss_cons (qs_setLc (i := 4) (own := [(("_law_number_here" : Str), 3)]) (lv_lcF go_name) rfl sc_l_holds.nd (qi_list (qv 2)) (blkOk_by (N := nm_l_holds) (sc := defScope s_l_holds) (own := [(("_law_number_here" : Str), 3)]) (by decide +kernel)) (fun _ _ _ _ _ => (pg_name (i := 3) sc_l_holds.nd rfl (Or.inl rfl))) (fun _ _ _ _ _ => (qts_one (qt_cmp oq_notN (qv 3) q_non))) (fun _ _ _ _ _ => (qv 3)) (sw_true rfl rfl rfl (by decide +kernel)))
 (qss_cons (qs_set (i := 5) sc_l_holds.nd q_int)
 (qss_cons (qs_set (i := 6) sc_l_holds.nd (q_ix (qv 4) q_int))
 (qss_cons (qs_set (i := 7) sc_l_holds.nd (q_ix (qv 4) q_int))
 (qss_cons (qs_for PassesOwn.never rfl (qi_list (qv 4)) (qg_name (i := 3) sc_l_holds.nd)
  (qss_cons (qs_set (i := 5) sc_l_holds.nd (q_op oq_addI (qv 5) (qv 3)))
 (qss_cons (qs_if (qt_cmp oq_gt (qv 3) (qv 6))
  (qss_one (qs_set (i := 6) sc_l_holds.nd (qv 3)))
  qss_nil)
 (qss_one (qs_if (qt_cmp oq_lt (qv 3) (qv 7))
  (qss_one (qs_set (i := 7) sc_l_holds.nd (qv 3)))
  qss_nil)))))
 (qss_cons (qs_set (i := 8) sc_l_holds.nd q_int)
 (qss_cons (qs_for PassesOwn.never rfl (qi_range1 (m_range T) (qa_cons (q_callB cq_len (m_len T) (by decide +kernel) (qa_cons (qv 2) qa_nil)) qa_nil)) (qg_name (i := 9) sc_l_holds.nd)
  (qss_one (qs_if (qt_cmp oq_notN (q_ix (qv 2) (qv 9)) q_non)
  (qss_cons (qs_set (i := 10) sc_l_holds.nd (q_lst (qa_cons (q_tup (qa_cons q_str (qa_cons (q_call (ok_l_into_range T) (hr.mono (by decide)) (qa_cons (qv 5) qa_nil)) qa_nil))) (qa_cons (q_tup (qa_cons q_str (qa_cons (qv 6) qa_nil))) (qa_cons (q_tup (qa_cons q_str (qa_cons (qv 7) qa_nil))) (qa_cons (q_tup (qa_cons q_str (qa_cons (q_call (ok_l_into_range T) (hr.mono (by decide)) (qa_cons (qv 8) qa_nil)) qa_nil))) qa_nil))))))
 (qss_cons (qs_for PassesOwn.never rfl (qi_list (q_op oq_catL (q_sliceL (qv 10) (qo_some (qv 1)) qo_none) (q_sliceL (qv 10) qo_none (qo_some (qv 1))))) (qg_tup (n := 2) rfl (qgs_cons (qg_name (i := 11) sc_l_holds.nd) (qgs_cons (qg_name (i := 3) sc_l_holds.nd) qgs_nil)))
  (qss_one (qs_if (qt_not (qt_val (q_call (ok_l_same T) (hr.mono (by decide)) (qa_cons (q_call (ok_joined T) (hr.mono (by decide)) (qa_cons (qv 11) (qa_cons (qv 0) (qa_cons (qv 9) qa_nil)))) (qa_cons (qv 3) qa_nil)))))
  (qss_one (qs_ret q_bl))
  qss_nil)))
 (qss_one (qs_set (i := 8) sc_l_holds.nd (q_op oq_addI (qv 8) (q_ix (qv 2) (qv 9)))))))
  qss_nil)))
 (qss_one (qs_ret (q_cmp (oq_eqD (un64 hr)) (qv 0) (qv 2)))))))))))), ?_⟩) (fun _ _ _ _ _ _ us hl => match us, hl with | [_, _], _ => rfl)
  rintro _ M Q Et ⟨os, k, rfl, h0, h1, hne, hk, h⟩
  walk_at "vc"
  refine lc_filter os dO (·.isSome) dO rfl ?_ ?_ (fun o R1 R0 ho h1 h0 => ?_) ?_
  · rw [PySem.sizeLine_eq]; omega
  · trivial
  · cases o with
    | none => walk_at "vc"; exact h0 rfl
    | some n => walk_at "vc"; exact h1 rfl
  rw [nums_map]
  obtain ⟨n0, ns, hns⟩ : ∃ n0 ns, nums os = n0 :: ns := by
    cases e : nums os with
    | nil => exact absurd e hne
    | cons c cs' => exact ⟨c, cs', rfl⟩
  rw [hns]
  walk_at "vc"
  refine for_map (n0 :: ns) D.int rfl (fun ys τ M' => M' = M ∧ ∃ (v3 : Option D) (hi lo : Int), mMx ys n0 hi ∧ mMn ys n0 lo ∧ τ = [some (.lst (os.map dO)), some (.int k), some (.lst (os.map dO)), v3, some (.lst (.int n0 :: ns.map .int)), some (.int ys.sum), some (.int hi), some (.int lo), none, none, none, none])
    ⟨rfl, none, n0, n0, by simp [mMx], by simp [mMn], rfl⟩ (fun _ _ _ _ => trivial) ?_ ?_
  · rintro ys x zs τ M' Nx hx ⟨rfl, v3, hi, lo, h5, h6, rfl⟩ hN
    have e5 : ∀ z, (z = hi ∧ x ≤ hi) ∨ (z = x ∧ hi < x) → mMx (ys ++ [x]) n0 z := by
      unfold mMx at h5 ⊢
      simp only [List.mem_cons, List.mem_append, List.not_mem_nil, or_false] at h5 ⊢
      obtain ⟨h5, h7⟩ := h5
      rintro z (⟨rfl, hz⟩ | ⟨rfl, hz⟩)
      · refine ⟨by rcases h5 with h | h <;> simp [h], ?_⟩
        rintro y (h | h | h)
        · exact h7 y (.inl h)
        · exact h7 y (.inr h)
        · omega
      · refine ⟨by simp, ?_⟩
        rintro y (h | h | h)
        · have := h7 y (.inl h); omega
        · have := h7 y (.inr h); omega
        · omega
    have e6 : ∀ z, (z = lo ∧ lo ≤ x) ∨ (z = x ∧ x < lo) → mMn (ys ++ [x]) n0 z := by
      unfold mMn at h6 ⊢
      simp only [List.mem_cons, List.mem_append, List.not_mem_nil, or_false] at h6 ⊢
      obtain ⟨h5, h7⟩ := h6
      rintro z (⟨rfl, hz⟩ | ⟨rfl, hz⟩)
      · refine ⟨by rcases h5 with h | h <;> simp [h], ?_⟩
        rintro y (h | h | h)
        · exact h7 y (.inl h)
        · exact h7 y (.inr h)
        · omega
      · refine ⟨by simp, ?_⟩
        rintro y (h | h | h)
        · have := h7 y (.inl h); omega
        · have := h7 y (.inr h); omega
        · omega
    walk_at "vc"
    have es : ys.sum + x = (ys ++ [x]).sum := by simp
    rw [es]
    split <;> split <;> refine hN _ _ ⟨rfl, _, _, _, e5 _ ?_, e6 _ ?_, rfl⟩ <;> omega
  · rintro τ M' ⟨rfl, v3, hi, lo, h5, h6, rfl⟩
    have hmx : isMost os 0 hi := by
      unfold isMost
      rw [hns]
      unfold mMx at h5
      simpa using h5
    have hmn : isLeast os 0 lo := by
      unfold isLeast
      rw [hns]
      unfold mMn at h6
      simpa using h6
    rw [← hns]
    walk_at "vc"
    refine ⟨by omega, ?_⟩
    refine for_any (fun i τ M1 => M1 = M' ∧ ∃ (v3 v9 v10 v11 : Option D), τ = [some (.lst (os.map dO)), some (.int k), some (.lst (os.map dO)), v3, some (.lst (.int n0 :: ns.map .int)), some (.int (nums os).sum), some (.int hi), some (.int lo), some (.int (nums (os.take i)).sum), v9, v10, v11])
      ⟨rfl, v3, none, none, none, rfl⟩ (fun _ _ _ _ => trivial) ?_ ?_
    · rintro i x τ M1 hx ⟨rfl, v3, v9, v10, v11, rfl⟩
      obtain ⟨hi', rfl⟩ := rng_get hx
      have hi2 : i < os.length := by simpa using hi'
      have hat : atI (os.map dO) (i : Int) = some (dO os[i]) := atI_nat (by rw [List.getElem?_map, List.getElem?_eq_getElem hi2]; rfl)
      have htk : os.take (i + 1) = os.take i ++ [os[i]] := by rw [List.take_add_one, List.getElem?_eq_getElem hi2]; rfl
      walk_at "vc"
      simp only [hat, oSome_i]
      cases ho : os[i] with
      | none =>
        simp only [dO]
        walk_at "vc"
        refine ⟨_, _, _, _, rfl, ?_, rfl, rfl, rfl⟩
        rw [htk, ho]
        simp [nums]
      | some n =>
        simp only [dO]
        walk_at "vc"
        refine ⟨_, rfl, _, rfl, ?_⟩
        dsimp only
        generalize hL : [D.tup [D.str "sum", D.int (fWrap (nums os).sum)], D.tup [D.str "most", D.int hi], D.tup [D.str "least", D.int lo], D.tup [D.str "ahead", D.int (fWrap (nums (os.take i)).sum)]] = L
        have hLl : L.length = 4 := by rw [← hL]; rfl
        have hans : ∀ x ∈ L, ∃ (z : Str) (r : Int), x = .tup [.str z, .int r] ∧ ans z os i r := by
          rw [← hL]
          simp only [List.mem_cons, List.not_mem_nil, or_false]
          rintro x (rfl | rfl | rfl | rfl)
          · exact ⟨_, _, rfl, by unfold ans; rw [if_neg (by decide), if_neg (by decide), if_neg (by decide)]; rfl⟩
          · exact ⟨_, _, rfl, by unfold ans; rw [if_pos (by decide)]; exact hmx⟩
          · exact ⟨_, _, rfl, by unfold ans; rw [if_neg (by decide), if_pos (by decide)]; exact hmn⟩
          · exact ⟨_, _, rfl, by unfold ans; rw [if_neg (by decide), if_neg (by decide), if_pos (by decide)]; rfl⟩
        have hc1 : (Tl.cutD L (some k) none).length ≤ 4 := hLl ▸ cut_len
        have hc2 : (Tl.cutD L none (some k)).length ≤ 4 := hLl ▸ cut_len
        refine ⟨by omega, ?_⟩
        refine for_any (fun _ τ M2 => M2 = M1 ∧ ∃ (v3 v11 : Option D), τ = [some (.lst (os.map dO)), some (.int k), some (.lst (os.map dO)), v3, some (.lst (.int n0 :: ns.map .int)), some (.int (nums os).sum), some (.int hi), some (.int lo), some (.int (nums (os.take i)).sum), some (.int i), some (.lst L), v11])
          ⟨rfl, v3, v11, rfl⟩ (fun _ _ _ _ => trivial) ?_ ?_
        · rintro j x τ M2 hx ⟨rfl, v3, v11, rfl⟩
          obtain ⟨z, r, rfl, hz⟩ := hans x (by
            have := List.mem_of_getElem? hx
            simp only [List.mem_append] at this
            rcases this with h | h <;> exact cut_mem h)
          walk_at "vc"
          refine ⟨z, os, i, rfl, h1, hne, fun r2 hr2 => ?_⟩
          obtain rfl : r2 = r := by
            have : ∀ a b : Int, isMost os i a → isMost os i b → a = b := by
              rintro a b ⟨a1, a2⟩ ⟨b1, b2⟩
              have := a2 b b1
              have := b2 a a1
              omega
            have h3 : ∀ a b : Int, isLeast os i a → isLeast os i b → a = b := by
              rintro a b ⟨a1, a2⟩ ⟨b1, b2⟩
              have := a2 b b1
              have := b2 a a1
              omega
            unfold ans at hz hr2
            split at hz
            · rename_i e; rw [if_pos e] at hr2; exact this _ _ hr2 hz
            · rename_i e; rw [if_neg e] at hr2
              split at hz
              · rename_i e; rw [if_pos e] at hr2; exact h3 _ _ hr2 hz
              · rename_i e; rw [if_neg e] at hr2
                split at hz
                · rename_i e; rw [if_pos e] at hr2; unfold isAhead at hr2 hz; rw [hr2, hz]
                · rename_i e; rw [if_neg e] at hr2; unfold isSum at hr2 hz; rw [hr2, hz]
          refine ⟨r2, rfl, ?_⟩
          walk_at "vc"
          exact ⟨_, _, rfl, rfl⟩
        · rintro τ M2 ⟨rfl, v3, v11, rfl⟩
          walk_at "vc"
          simp only [hat, oSome_i, ho, dO]
          walk_at "vc"
          refine ⟨_, _, _, _, rfl, ?_, rfl, rfl, rfl⟩
          rw [htk, ho]
          simp [nums]
    · rintro τ M1 ⟨rfl, v3, v9, v10, v11, rfl⟩
      walk_at "vc"
      refine eqD_same 1 rfl rfl ?_ h
      unfold okD
      refine okDs_of fun x hx => ?_
      obtain ⟨o, _, rfl⟩ := List.mem_map.mp hx
      cases o <;> (unfold dO okD; trivial)
theorem ok_law (T : Tp K mg) {f : Addr} {fd : FuncData} (F : FunD K e_law.name e_law.qual e_law.params e_law.body e_law.scope [] [] f fd) : FnOk P w K mg base CX0 6 f fd ["_law_script"] (lSp K spLaw) := by
  refine fn_ok e_law fd F sc_law (by rintro _ M Q Et ⟨n, rfl, _⟩; rfl) (fun cdv A outer s H E hr => ⟨_, (qss_cons (qs_set (i := 1) sc_law.nd (q_op oq_addI q_int (q_op oq_mod (q_call (ok_l_cell T) (hr.mono (by decide)) (qa_cons (qv 0) (qa_cons q_int qa_nil))) q_int)))
 (qss_cons (qs_set (i := 2) sc_law.nd (q_op oq_catL (q_sliceL (qv 0) (qo_some q_int) (qo_some q_int)) (q_lst (qa_cons q_int qa_nil))))
 (qss_cons (qs_for PassesOwn.never rfl (qi_range3 (m_range T) (qa_cons q_int (qa_cons (q_callB cq_len (m_len T) (by decide +kernel) (qa_cons (qv 2) qa_nil)) (qa_cons (qv 1) qa_nil)))) (qg_name (i := 3) sc_law.nd)
  (qss_cons (qs_set (i := 4) sc_law.nd (q_call (ok_l_row T) (hr.mono (by decide)) (qa_cons (q_sliceL (qv 2) (qo_some (qv 3)) (qo_some (q_op oq_addI (qv 3) (qv 1)))) (qa_cons (qv 3) qa_nil))))
 (qss_one (qs_if (qt_not (qt_val (q_call (ok_l_holds T) (hr.mono (by decide)) (qa_cons (qv 4) (qa_cons (q_op oq_mod (q_ix (qv 2) (qv 3)) q_int) qa_nil)))))
  (qss_one (qs_ret q_bl))
  qss_nil))))
 (qss_one (qs_ret q_bl))))), ?_⟩)
  rintro _ M Q Et ⟨ns, rfl, hl, h⟩
  walk_at "vc"
  refine ⟨ns, 0, rfl, fun r => ?_⟩
  walk_at "vc"
  rw [cut_map]
  have hcl := cutA_len (xs := ns) (lo := some 1) (hi := some 97)
  generalize hcs : cutA ns (some 1) (some 97) ++ [7] = cs
  have e1 : (cutA ns (some 1) (some 97)).map D.int ++ [D.int 7] = cs.map D.int := by rw [← hcs]; simp
  have e2 : (cutA ns (some 1) (some 97)).length + 1 = cs.length := by rw [← hcs]; simp
  rw [e1]
  simp only [List.length_map]
  rw [e2]
  obtain ⟨n, hn, hk⟩ := rgc_up (i := 0) (j := (cs.length : Int)) (c := 1 + r % 8) (by omega) (by omega) (by omega)
  refine ⟨by omega, n, hn, ?_⟩
  refine for_any (fun i τ M' => ∃ v3 v4, τ = [some (.scr (ns.map D.int)), some (.int (1 + r % 8)), some (.lst (cs.map D.int)), v3, v4]) ⟨_, _, rfl⟩ (fun _ _ _ _ => trivial) ?_ ?_
  · rintro i x τ M' hx ⟨v3, v4, rfl⟩
    obtain ⟨hi, rfl⟩ := rng_get hx
    have hj := hk i hi
    obtain ⟨j, hj2⟩ : ∃ j : Nat, 0 + (i : Int) * (1 + r % 8) = j := by
      have : 0 ≤ (i : Int) * (1 + r % 8) := Int.mul_nonneg (by omega) (by omega)
      exact ⟨((i : Int) * (1 + r % 8)).toNat, by omega⟩
    obtain ⟨wd, hwd⟩ : ∃ wd : Nat, 1 + r % 8 = wd := ⟨(1 + r % 8).toNat, by omega⟩
    rw [hj2] at hj ⊢
    rw [hwd]
    have hjl : j < cs.length := by omega
    walk_at "vc"
    rw [cut_map]
    have hc2 := cutA_len (xs := cs) (lo := some (j : Int)) (hi := some ((j : Int) + wd))
    refine ⟨_, j, rfl, cutA_pos hjl (by omega), by omega, by omega, fun os ho hne => ?_⟩
    walk_at "vc"
    rw [atI_nat (v := .int cs[j]) (by rw [List.getElem?_map, List.getElem?_eq_getElem hjl]; rfl)]
    walk_at "vc"
    have hp := cutA_pos hjl (show 0 < wd by omega)
    refine ⟨os, _, rfl, by omega, by omega, hne, modB (by decide), ?_⟩
    walk_at "vc"
    exact ⟨_, _, rfl, rfl⟩
  · rintro τ M' _
    exact h M'
end
theorem facts {P : Program} {w : World} {K : PySem.W.Frag} {h : Heap} {mg : Str → Option Value} {f : Addr} (X : K.In h) (G : h.Ns mainGlobals mg) (hfa : mg ("law" : Str) = some (.ref f)) (c : He.SaysD fa fn K) :
    ∃ fd : FuncData, (∀ (s : Shared) (v : Value), BindsTo s fd ⟨[v], []⟩ [("_law_script", v)]) ∧ ∀ base : Heap, K.In base → base.Ns mainGlobals mg → FnOk P w K mg base CX0 6 f fd ["_law_script"] (lSp K spLaw) := by
  have T : Tp K mg := ⟨c, h, X, G⟩
  obtain ⟨fd, F⟩ := c.def_ 21 (d := e_law) rfl
  have e := hfa.symm.trans (m_law T)
  cases e
  have b := FunD.bindsA (ps := ["_law_script"]) F fun _ _ _ _ _ _ us hl => match us, hl with | [_], _ => rfl
  exact ⟨fd, fun s v => b s [v] rfl, fun base _ _ => ok_law T F⟩
abbrev R : PySem.W.OpenRow := PySem.W.OpenLaw.row PySem.Challenge.rw_widelanes_k41_joined
abbrev hk : PySem.W.Hook := He.hookD 4 fa fn
def ob (s : PySem.W.SharedT) : He.AlD := He.obsDG 4 fa fn (HandSHeadRun.getT s)
theorem ob_eq (s : PySem.W.SharedT) : ob s = hk.obs s.abs := He.obsDG_eq (HandSHeadRun.getT_eq s)
theorem run (w : World) : HandSHeadRun.RunEq R (PySem.W.view R.prog [19]) hk ob 4000 ["__name__", "HALF", "ROUND", "wrapped", "Joint", "Most", "Least", "Ahead", "joint_of", "joined", "_law_cell", "_law_same", "_law_into_range", "_law_mixed", "_law_number", "_law_row", "_law_holds"] w := by
  intro os
  kernel_rfl
end K41
open PySem PySem.W PySem.Calls PyProof.Rows
theorem PySem.Challenge.cw_widelanes_k41_joined_holds : PySem.Challenge.rw_widelanes_k41_joined.Holds := by
  w_on; o_law
  refine HandSHeadRun.head_any (r := OpenLaw.row PySem.Challenge.rw_widelanes_k41_joined) (q := view (OpenLaw.row PySem.Challenge.rw_widelanes_k41_joined).prog [19]) (H := K41.hk) (ob := K41.ob) (M := 4000) (loose := ["__name__", "HALF", "ROUND", "wrapped", "Joint", "Most", "Least", "Ahead", "joint_of", "joined", "_law_cell", "_law_same", "_law_into_range", "_law_mixed", "_law_number", "_law_row", "_law_holds"]) (d := HandSHeadRun.topDef (OpenLaw.row PySem.Challenge.rw_widelanes_k41_joined).prog 19) (kwd := []) K41.ob_eq
    (by kernel_rfl) (fun s => by kernel_rfl) K41.run (by kernel_rfl) (by kernel_rfl) (by kernel_rfl) (by rfl) (by first | assumption | decide +kernel) (by decide +kernel) ⟨rfl, rfl, rfl, rfl, rfl, by decide +kernel⟩ ?hw ?hc
  case hw => w_witness2
  case hc =>
    refine L2.walk_ofE (l := PySem.Challenge.rw_widelanes_k41_joined) (n := 63) (k := 6) (x := "_law_script") (CX := L2.CX0) rfl (by decide) (by kernel_rfl) ⟨rfl, by decide, by decide⟩ ?F (fun _ _ _ _ z => z)
    intro w mg fa h Y G hmg0
    obtain ⟨K, KX, c⟩ := Y
    have hmg : mg ("law" : PySem.Str) = some (.ref fa) := by
      have e : (HandSHeadRun.topDef (OpenLaw.row PySem.Challenge.rw_widelanes_k41_joined).prog 19).name = ("law" : PySem.Str) := by kernel_rfl
      rw [← e]
      exact hmg0
    obtain ⟨fd, hb, hF⟩ := K41.facts (P := (PySem.Challenge.rw_widelanes_k41_joined).prog) (w := w) KX G hmg c
    exact ⟨K, fd, Tl.lSp K Tl.spLaw, KX, hb, fun H a ns hl _ hS => Tl.end_sp hS ⟨ns, rfl, hl, fun _ => rfl⟩, hF⟩
#print axioms PySem.Challenge.cw_widelanes_k41_joined_holds
